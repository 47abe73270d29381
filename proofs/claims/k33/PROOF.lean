import PyProof.Rows.All
import Wide.All
import OpenK.AllK
import Wide.FinOn
import HandS.ForMost
import HandS.ForExc
import HandS.ExcCtx
import HandS.HotCalls
import HandS.ExcIs
import HandS.IsInst
import HandS.Flow
import HandS.SetFor
import HandS.SortInts
import HandS.Conv
import HandS.WideBits
import PySem.Challenge.RW_retrace_k33_places_kept
set_option Elab.async false
set_option linter.all false
set_option maxRecDepth 100000
set_option maxHeartbeats 4000000
namespace RT
open PySem PySem.Spec PyProof.Rows L2 L2H
/-! ## 1. a def called while an error is held: its promise may speak of that error -/
abbrev SpP := Addr → Value → Option Addr → Sp
structure FnP (P : Program) (w : World) (K : PySem.W.Frag) (mg : Str → Option Value) (base : Heap) (CX : CXT)
    (k : Nat) (f : Addr) (fd : FuncData) (ps : List Str) (sp : SpP) : Prop where
  len : ∀ a c d vs H Q E, sp a c d vs H Q E → vs.length = ps.length
  run : ∀ (A : Around) (outer : List Env) (s : Shared) (H : Hp) (args : Args) (us : List Value) (vs : List V)
    (Q : VK) (E : XK) (e : Addr × Obj) (cls : Value) (d : Option Addr), RoomH k A → Hot1 A e → Zc cls d e.2 → PinOk outer H s e →
    Env0 P w K mg base A outer s H → BindsTo s fd args (ps.zip us) → Vals vs us → sp e.1 cls d vs H Q E →
    codeAny (model P w) A (.call (.ref f) args) (CR CX outer P w H s Q E) s
theorem fn_ofP {CX : CXT} {P : Program} {w : World} {K : PySem.W.Frag} {mg : Str → Option Value} {base : Heap} {k : Nat}
    {f : Addr} {name qual : Str} {params : Arguments} {body : List Stmt} {scope : Scope} {dV kV doc pm cdv ct oc : Value}
    {an od : Option Addr} {osl : Array (Option Value)} {N ps : List Str} {sp : SpP}
    (lk : K.lookup f = some ⟨oc, od, .func (PySem.W.fnOf name qual params body scope dV kV doc pm an cdv ct), osl⟩)
    (hcd : PySem.W.codeIn K cdv qual = true) (S : FnScope N ps scope)
    (len : ∀ a c d vs H Q E, sp a c d vs H Q E → vs.length = ps.length)
    (hbody : ∀ (A : Around) (outer : List Env) (s : Shared) (H : Hp) (vs : List V) (Q : VK) (E : XK) (e : Addr × Obj) (cls : Value) (d : Option Addr),
      Hot1 A e → Zc cls d e.2 → RoomH k (A.deeper (envOfC qual scope s.heap.objs.size f cdv)) → sp e.1 cls d vs H Q E →
      ∃ t, PSs (cxH CX P w K mg base N qual scope f cdv A outer s H E e) body t ∧
        t { nx := fun _ H' => Q .non H', rt := Q } (L2.start N vs) H) :
    FnP P w K mg base CX (k + 1) f (PySem.W.fnOf name qual params body scope dV kV doc pm an cdv ct) ps sp := by
  constructor
  · exact len
  · intro A outer s H args us vs Q E e cls d hr hot hz hpin e0 hb r hsp
    have hl := len _ _ _ _ _ _ _ hsp
    have KX : K.In s.heap := e0.mod.kin.keeps fun b o z => (e0.bs b o z).1
    have lim : s.heap.NoLimit := e0.mod.nolimit.keeps fun b o z => (e0.bs b o z).1
    refine codeAny_call_function hr.depth (KX _ _ lk) rfl S.co S.gen rfl (PySem.W.codeRec_of KX hcd)
      (hb _ _ _ _ ?_)
    refine wpAny_newFunctionEnv_cells S.kind (fun y hy => ?_) fun env he s1 x => ?_
    · obtain ⟨n, v⟩ := y
      rcases S.par n (List.of_mem_zip hy).1 with q | q
      · exact .inl q
      · exact .inr ⟨q, PySem.W.cellsFrom_some _ _ _ (.inl q)⟩
    subst he
    refine ⟨lim.keeps x.toInCall.keep, codeAny_func ?_⟩
    obtain ⟨t, ht, hq⟩ := hbody A outer s H vs Q E e cls d hot hz (hr.deeper _) hsp
    have I := inv_startH (CX := CX) (E := E) S hpin e0 hl r x
    refine wpAny_mono (ht.run [] s1 (L2.start N vs) H _ I hq) (fun fl s' hs => ?_) fun u s' hs => hs
    cases fl with
    | ret u =>
      obtain ⟨v, σ', H', J, rv, q⟩ := hs
      exact ⟨v, H', J.os, J.bare, J.base, J.hok, rv, q⟩
    | next =>
      obtain ⟨σ', H', J, q⟩ := hs
      exact ⟨.non, H', J.os, J.bare, J.base, J.hok, rfl, q⟩
    | brk => exact hs.elim fun _ z => z.elim fun _ z => z.2.elim
    | cont => exact hs.elim fun _ z => z.elim fun _ z => z.2.elim
/-- the suite's own held error, in the callee's eyes -/
theorem pe_callP {X : Cx} {CX : CXT} {k : Nat} {f : Addr} {fd : FuncData} {ps : List Str} {sp : SpP} {E : L2.St → XK}
    {x : Str} {q pos : Pos} {e : Expr} {es : List Expr} {t : TA} {p : Addr × Obj} {cls : Value} {d : Option Addr}
    (F : FnP X.prog X.w X.K X.mg X.base CX k f fd ps sp) (hr : RoomH k X.A) (hot : Hot1 X.A p) (hp : p ∈ X.pn) (hz : Zc cls d p.2)
    (hg : Gl X x) (hm : X.mg x = some (.ref f)) (hk : PySem.W.keepIn X.K (.ref f) = true) (hb : Binds X.K fd ps [])
    (hx : ∀ σ, PassesAt CX X σ (E σ)) (ha : PA X (e :: es) t) (hdb : (x == ("__debug__" : Str)) = false := by decide)
    (he : starEach (e :: es) X.env = (false, eval e X.env) :: starEach es X.env := by rfl)
    (hpl : (backTo pos (starEach es X.env)).any (·.1) = false := by rfl) :
    PE X (.Call (.Name x q) (e :: es) [] pos) (tCallS (sp p.1 cls d) E t) := by
  constructor
  intro pins s σ H Q I h
  refine wpAny_Call_Name_kw (ld_glob I hg hm ?_ hdb)
  refine PySem.W.callWith_K (h₀ := X.base) I.ok.mod.kin hk
    (thn (ha.run pos pins s σ H _ I h) fun us s1 ⟨vs, H1, I1, r, q1⟩ => ⟨I1.kIn, ?_⟩) he hpl
  have hl : us.length = ps.length := by rw [← r.length]; exact F.len _ _ _ _ _ _ _ q1
  have b := hb s1 us I1.kIn (by rw [List.append_nil]; exact hl)
  rw [List.append_nil] at b
  have P1 := I1.pin p (List.mem_append_left _ hp)
  have hpin : PinOk X.stack H1 s1 p := ⟨P1.1, P1.2.1, fun hm1 => by
    rcases List.mem_cons.mp (I1.stkSub p.1 hm1) with z | z
    · exact P1.2.2.1 z
    · exact P1.2.2.2.1 z, P1.2.2.2.2⟩
  refine wpAny_call (codeAny_mono (F.run X.A X.stack s1 H1 ⟨us, []⟩ us vs Q (E σ) p cls d hr hot hz hpin I1.env0 b r q1) fun rr s' hq => ?_)
  cases rr with
  | error u => exact hx σ pins H1 s1 u s' I1 hq
  | ok fl =>
    cases fl with
    | ret u => exact I1.after hq
    | next => exact hq.elim
    | brk => exact hq.elim
    | cont => exact hq.elim
/-- isinstance of an error that is pinned -/
def uIsE (K : PySem.W.Frag) (cls : Value) (d : Option Addr) (a : Addr) : List V → Hp → VK → Prop := fun xs H Q =>
  ∃ (D : Addr) (c : V) (cv : Value) (b : Bool), cls = .ref D ∧ d = none ∧ ExcC K D ∧ xs = [.ref a, c] ∧
    (∀ u, RelV c u → u = cv) ∧ PySem.W.kitOne K (.ref D) cv = some b ∧ Q (.bl b) H
theorem call_isP {X : Cx} {K : PySem.W.Frag} {e : Addr × Obj} {cls : Value} {d : Option Addr} (hp : e ∈ X.pn) (hz : Zc cls d e.2)
    (hf : ∃ vs, e.2.data = .fields vs) (hK : X.K = K := by rfl) : CallR X (.builtin "isinstance") (uIsE K cls d e.1) := by
  subst hK
  intro pins s σ H xs us Q I r h
  obtain ⟨D, c, cv, b, rfl, rfl, C, rfl, hcv, ek, q⟩ := h
  obtain ⟨u1, u2, rfl, r1, r2⟩ := Vals.two r
  obtain rfl := hcv _ r2
  obtain rfl : u1 = Value.ref e.1 := r1
  have hget := (I.pin e (List.mem_append_left _ hp)).1
  obtain ⟨vs, hv⟩ := hf
  have J : PySem.W.InstAt s.heap e.1 e.2 D none := by
    obtain ⟨a, oc, od, oda, osl⟩ := e
    obtain ⟨h1, h2⟩ := hz
    dsimp only at h1 h2 hv hget
    subst h1 h2 hv
    exact ⟨hget, rfl, rfl, trivial⟩
  refine PySem.W.kia_one (PySem.W.handS_kitx_exc C.hg C.hk C.hs C.hd C.ha C.hn C.ht C.hm) I.kIn J ek (fun z => nomatch z) fun tk => ?_
  exact ⟨.bl b, H, I.kept (t' := tk) fun _ _ z => z, rfl, q⟩
/-! ## 2. a def of the text: its body, errors may leave it -/
section
variable {P : Program} {w : World} {K : PySem.W.Frag} {mg : Str → Option Value} {base : Heap}
theorem okN {x qual : Str} {st : Stmt} {f : Addr} {fd : FuncData} {N ps : List Str} {k : Nat} {sp : Sp}
    (F : Fun K x qual st f fd) (S : FnScope N ps (defScope st)) (len : ∀ vs H Q E, sp vs H Q E → vs.length = ps.length)
    (hbody : ∀ (cdv : Value) (A : Around) (outer : List Env) (s : Shared) (H : Hp) (vs : List V) (Q : VK) (E : XK),
      Room k (A.deeper (envOfC qual (defScope st) s.heap.objs.size f cdv)) → sp vs H Q E →
      ∃ t, PSs (cxOf (L2N.CX P w) P w K mg base N qual (defScope st) f cdv A outer s H E) (defBody st) t ∧
        t ⟨fun _ H' => Q .non H', Q, fun _ _ => False, fun _ _ => False⟩ (L2.start N vs) H) :
    FnOk P w K mg base (L2N.CX P w) (k + 1) f fd ps sp := by
  obtain ⟨oc, od, kV, doc, pm, an, cdv, ct, osl, rfl, lk, hcd⟩ := F.ex
  exact fn_of lk hcd S len fun A outer s H vs Q E hr hsp => hbody cdv A outer s H vs Q E hr hsp
theorem okP {x qual : Str} {st : Stmt} {f : Addr} {fd : FuncData} {N ps : List Str} {k : Nat} {sp : SpP}
    (F : Fun K x qual st f fd) (S : FnScope N ps (defScope st)) (len : ∀ a c d vs H Q E, sp a c d vs H Q E → vs.length = ps.length)
    (hbody : ∀ (cdv : Value) (A : Around) (outer : List Env) (s : Shared) (H : Hp) (vs : List V) (Q : VK) (E : XK) (e : Addr × Obj) (cls : Value) (d : Option Addr),
      Hot1 A e → Zc cls d e.2 → RoomH k (A.deeper (envOfC qual (defScope st) s.heap.objs.size f cdv)) → sp e.1 cls d vs H Q E →
      ∃ t, PSs (cxH (L2N.CX P w) P w K mg base N qual (defScope st) f cdv A outer s H E e) (defBody st) t ∧
        t ⟨fun _ H' => Q .non H', Q, fun _ _ => False, fun _ _ => False⟩ (L2.start N vs) H) :
    FnP P w K mg base (L2N.CX P w) (k + 1) f fd ps sp := by
  obtain ⟨oc, od, kV, doc, pm, an, cdv, ct, osl, rfl, lk, hcd⟩ := F.ex
  exact fn_ofP lk hcd S len fun A outer s H vs Q E e cls d hot hz hr hsp => hbody cdv A outer s H vs Q E e cls d hot hz hr hsp
end
/-- nothing is let out -/
theorem passN {X : Cx} : ∀ σ, PassesAt (L2N.CX X.prog X.w) X σ ((fun _ => E0) σ) := by
  intro σ pins H s e s' I h
  obtain ⟨_, _, _, _, _, _, _, _, _, _, _, _, z⟩ := h
  exact z.elim
/-! ## 3. operators that take what comes -/
section
variable {X : Cx} {K : PySem.W.Frag}
def uCnt (K : PySem.W.Frag) : V → List V → Hp → VK → Prop := fun x vs H Q => ∃ (p : Addr) (xs : List V) (y : V),
  x = .ref p ∧ vs = [y] ∧ SqL K H p xs ∧ flatV y = true ∧ xs.all flatV = true ∧ Q (.int (xs.countP fun z => eqV z y : Nat)) H
theorem countP_eqU {x : V} : ∀ {xs : List V} {us : List Value}, Vals xs us → xs.all flatV = true →
    us.countP (eqU x) = xs.countP fun y => eqV y x
  | _, _, .nil, _ => rfl
  | y :: xs, u :: us, .cons r t, f => by
    rw [List.all_cons, Bool.and_eq_true] at f
    rw [List.countP_cons, List.countP_cons, eqU_of r f.1, countP_eqU t f.2]
theorem mt_cnt (hK : X.K = K := by rfl) : MtR X "list.count" (uCnt K) := by
  subst hK
  intro pins s σ H x xs v us Q I rx rxs h
  obtain ⟨p, ys, y, rfl, rfl, hs, fy, fs, q⟩ := h
  cases rx
  obtain ⟨u, rfl, ru⟩ := rxs.one
  obtain ⟨its, rv, ⟨⟨cls, dd, data, sl⟩, n, ho, hc, hdn, hd⟩, hlen⟩ := I.list hs
  simp only at hc hd
  subst hc hd
  refine call_meets PySem.F.slot_list_count ⟨_, ho, rfl⟩ PySem.F.entry_list_count (PySem.F.args_list_count_2 _ _)
    (SeqAt.list_countAt p its.toArray n dd sl u (eqU y))
    ⟨ho, fun z hz => mem_eqAt ru fy rv fs z (by simpa using hz), .int _, H, I.tok _, ⟨s.toks, ?_⟩, q⟩
  show Value.int ((its.countP (eqU y) : Nat) : Int) s.toks = _
  rw [countP_eqU rv fs]
end
end RT

namespace RT
open PySem PySem.Spec PyProof.Rows L2
/-! ## 4. defs of the text, by name, with their promises -/
structure DefAt (K : PySem.W.Frag) (mg : Str → Option Value) (x : Str) (st : Stmt) : Prop where
  ex : ∃ f fd, mg x = some (.ref f) ∧ Fun K x x st f fd
structure Own (P : Program) (w : World) (K : PySem.W.Frag) (mg : Str → Option Value) (base : Heap) (x : Str) (k : Nat) (ps : List Str) (sp : Sp) : Prop where
  ex : ∃ f fd, mg x = some (.ref f) ∧ PySem.W.keepIn K (.ref f) = true ∧ Binds K fd ps [] ∧ FnOk P w K mg base (L2N.CX P w) k f fd ps sp
structure OwnP (P : Program) (w : World) (K : PySem.W.Frag) (mg : Str → Option Value) (base : Heap) (x : Str) (k : Nat) (ps : List Str) (sp : SpP) : Prop where
  ex : ∃ f fd, mg x = some (.ref f) ∧ PySem.W.keepIn K (.ref f) = true ∧ Binds K fd ps [] ∧ FnP P w K mg base (L2N.CX P w) k f fd ps sp
section
variable {P : Program} {w : World} {K : PySem.W.Frag} {mg : Str → Option Value} {base : Heap}
abbrev BindW (st : Stmt) (x : Str) (ps : List Str) : Prop := ∀ (kV doc pm : Value) (an : Option Addr) (cdv ct : Value) (us : List Value),
  us.length = ps.length → bindArgs (PySem.W.fnOf x x (defArgs st) (defBody st) (defScope st) .none kV doc pm an cdv ct) ⟨us, []⟩ = pure (ps.zip us)
def FnW (P : Program) (w : World) (K : PySem.W.Frag) (mg : Str → Option Value) (base : Heap) (x : Str) (st : Stmt) (k : Nat) (ps : List Str) (sp : Sp) : Prop :=
  ∀ f fd, Fun K x x st f fd → FnOk P w K mg base (L2N.CX P w) k f fd ps sp
theorem fnW_of {x : Str} {st : Stmt} {N ps : List Str} {k : Nat} {sp : Sp}
    (S : FnScope N ps (defScope st)) (len : ∀ vs H Q E, sp vs H Q E → vs.length = ps.length)
    (hbody : ∀ (f : Addr) (cdv : Value) (A : Around) (outer : List Env) (s : Shared) (H : Hp) (vs : List V) (Q : VK) (E : XK),
      Room k (A.deeper (envOfC x (defScope st) s.heap.objs.size f cdv)) → sp vs H Q E →
      ∃ t, PSs (cxOf (L2N.CX P w) P w K mg base N x (defScope st) f cdv A outer s H E) (defBody st) t ∧
        t ⟨fun _ H' => Q .non H', Q, fun _ _ => False, fun _ _ => False⟩ (L2.start N vs) H) :
    FnW P w K mg base x st (k + 1) ps sp := fun f fd F => okN F S len (hbody f)
theorem own_of {x : Str} {st : Stmt} {ps : List Str} {k : Nat} {sp : Sp} (D : DefAt K mg x st) (hb : BindW st x ps)
    (h : FnW P w K mg base x st k ps sp) : Own P w K mg base x k ps sp := by
  obtain ⟨f, fd, hm, F⟩ := D.ex
  exact ⟨f, fd, hm, F.kp, F.binds hb, h f fd F⟩
theorem law_F {st : Stmt} {x : Str} {k : Nat} {sp : Sp} {fa : Addr} (D : DefAt K mg "law" st) (hb : BindW st "law" [x])
    (h : ∀ base : Heap, K.In base → base.Ns mainGlobals mg → FnW P w K mg base "law" st k [x] sp) (hfa : mg "law" = some (.ref fa)) :
    ∃ fd : FuncData, (∀ (s : Shared) (u : Value), BindsTo s fd ⟨[u], []⟩ [(x, u)]) ∧
      ∀ base : Heap, K.In base → base.Ns mainGlobals mg → FnOk P w K mg base (L2N.CX P w) k fa fd [x] sp := by
  obtain ⟨f, fd, hm, F⟩ := D.ex
  have e := hfa.symm.trans hm
  cases e
  refine ⟨fd, fun s u => ?_, fun base h1 h2 => h base h1 h2 _ _ F⟩
  obtain ⟨oc, od, kV, doc, pm, an, cdv, ct, osl, rfl, lk, hcd⟩ := F.ex
  exact .of_eq (hb kV doc pm an cdv ct [u] rfl)
theorem noneN {P : Program} {w : World} {H : Hp} {s : Shared} {e : Value} {s' : Shared} (h : L2N.CX P w [] H s (fun _ _ _ => False) e s') : False := by
  obtain ⟨_, _, _, _, _, _, _, _, _, _, _, _, z⟩ := h
  exact z
theorem ownP_of {x : Str} {st : Stmt} {N ps : List Str} {k : Nat} {sp : SpP} (D : DefAt K mg x st) (hb : BindW st x ps)
    (S : FnScope N ps (defScope st)) (len : ∀ a c d vs H Q E, sp a c d vs H Q E → vs.length = ps.length)
    (hbody : ∀ (f : Addr) (cdv : Value) (A : Around) (outer : List Env) (s : Shared) (H : Hp) (vs : List V) (Q : VK) (E : XK) (e : Addr × Obj) (cls : Value) (d : Option Addr),
      L2H.Hot1 A e → Zc cls d e.2 → L2H.RoomH k (A.deeper (envOfC x (defScope st) s.heap.objs.size f cdv)) → sp e.1 cls d vs H Q E →
      ∃ t, PSs (L2H.cxH (L2N.CX P w) P w K mg base N x (defScope st) f cdv A outer s H E e) (defBody st) t ∧
        t ⟨fun _ H' => Q .non H', Q, fun _ _ => False, fun _ _ => False⟩ (L2.start N vs) H) :
    OwnP P w K mg base x (k + 1) ps sp := by
  obtain ⟨f, fd, hm, F⟩ := D.ex
  exact ⟨f, fd, hm, F.kp, F.binds hb, okP F S len (hbody f)⟩
end
section
variable {X : Cx} {j k : Nat} {ps : List Str} {sp : Sp} {E : L2.St → XK} {x : Str} {p pos : Pos} {e : Expr} {es : List Expr} {t : TA}
theorem pe_own (O : Own X.prog X.w X.K X.mg X.base x j ps sp) (hj : j ≤ k) (hr : Room k X.A) (hg : Gl X x)
    (hx : ∀ σ, PassesAt (L2N.CX X.prog X.w) X σ (E σ)) (ha : PA X (e :: es) t) (hdb : (x == ("__debug__" : Str)) = false := by decide)
    (he : starEach (e :: es) X.env = (false, eval e X.env) :: starEach es X.env := by rfl)
    (hpl : (backTo pos (starEach es X.env)).any (·.1) = false := by rfl) : PE X (.Call (.Name x p) (e :: es) [] pos) (tCallS sp E t) := by
  obtain ⟨f, fd, hm, hk, hb, F⟩ := O.ex
  exact pe_callS F (hr.mono hj) hg hm hk hb hx ha hdb he hpl
theorem pe_ownP {sp : SpP} {q : Addr × Obj} {cls : Value} {d : Option Addr} (O : OwnP X.prog X.w X.K X.mg X.base x j ps sp) (hj : j ≤ k) (hr : L2H.RoomH k X.A)
    (hot : L2H.Hot1 X.A q) (hp : q ∈ X.pn) (hz : Zc cls d q.2) (hg : Gl X x)
    (hx : ∀ σ, PassesAt (L2N.CX X.prog X.w) X σ (E σ)) (ha : PA X (e :: es) t) (hdb : (x == ("__debug__" : Str)) = false := by decide)
    (he : starEach (e :: es) X.env = (false, eval e X.env) :: starEach es X.env := by rfl)
    (hpl : (backTo pos (starEach es X.env)).any (·.1) = false := by rfl) : PE X (.Call (.Name x p) (e :: es) [] pos) (tCallS (sp q.1 cls d) E t) := by
  obtain ⟨f, fd, hm, hk, hb, F⟩ := O.ex
  exact pe_callP F (hr.mono hj) hot hp hz hg hm hk hb hx ha hdb he hpl
/-- a def without arguments -/
theorem pe_own0 (O : Own X.prog X.w X.K X.mg X.base x j ps sp) (hj : j ≤ k) (hr : Room k X.A) (hg : Gl X x)
    (hx : Passes (L2N.CX X.prog X.w) X E0) (hdb : (x == ("__debug__" : Str)) = false := by decide) : PE X (.Call (.Name x p) [] [] pos) (tCall sp [] E0 tNil) := by
  obtain ⟨f, fd, hm, hk, hb, F⟩ := O.ex
  exact pe_call0 F (hr.mono hj) hg hm hk hb .nil hx hdb
end
/-! ## 5. operators and looks that take what comes -/
def uAdd (K : PySem.W.Frag) : R2 := fun x y H Q =>
  (rI0 (fun i j => .int (i + j)) x y H Q ∨ ∃ i j, x = .str i ∧ y = .str j ∧ i.length + j.length ≤ sizeLine ∧ Q (.str (i ++ j)) H) ∨
  (rCat x y H Q ∨ rCatT K x y H Q)
def uMul : R2 := fun x y H Q => rI CMul (fun i j => .int (i * j)) x y H Q ∨ rRep x y H Q
def uEq (K : PySem.W.Frag) : R2 := fun x y H Q => rEq x y H Q ∨ rEqD K x y H Q
def uNe (K : PySem.W.Frag) : R2 := fun x y H Q => rNe x y H Q ∨ rNeD K x y H Q
def rIxD : R2 := fun x y H Q => ∃ a v, x = .ref a ∧ DGet H a y (some v) ∧ Q v H
def uIx (K : PySem.W.Frag) : R2 := fun x y H Q => rIx K x y H Q ∨ rIxD x y H Q
def rSetD : V → V → V → Hp → (Hp → Prop) → Prop := fun o i v H Q => ∃ a H', o = .ref a ∧ DPut H a i v H' ∧ Q H'
def uSet : V → V → V → Hp → (Hp → Prop) → Prop := fun o i v H Q => rSetL o i v H Q ∨ rSetD o i v H Q
def uSl (K : PySem.W.Frag) : V → Option Int → Option Int → Hp → VK → Prop := fun x lo hi H Q => rSlL K x lo hi H Q ∨ rSlT K x lo hi H Q
def uLen (K : PySem.W.Frag) : List V → Hp → VK → Prop := fun xs H Q =>
  ((∃ p ys, xs = [.ref p] ∧ (SqL K H p ys ∨ SqT K H p ys) ∧ Q (.int ys.length) H) ∨ ∃ z, xs = [.str z] ∧ z.length ≤ sizeLine ∧ Q (.int z.length) H) ∨
    ∃ a kvs, xs = [V.ref a] ∧ H a = some (.dK kvs) ∧ Q (.int kvs.length) H
def ItV (K : PySem.W.Frag) (x : V) (H1 : Hp) (R : It → Hp → Prop) : Prop :=
  (∃ a, x = .ref a ∧ (∃ xs, SqL K H1 a xs) ∧ R (Itl K a) H1) ∨ (∃ a, x = .ref a ∧ (∃ xs, SqT K H1 a xs) ∧ R (Itt K a) H1) ∨ ∃ z, x = .str z ∧ R (Its z) H1
def uIt (K : PySem.W.Frag) (tl : TE) : TI := fun σ H R => tl σ H fun x H1 => ItV K x H1 R
section
variable {X : Cx} {K : PySem.W.Frag} {a b : Expr} {ta tb : TE} {pos : Pos}
theorem op_uadd (hK : X.K = K := by rfl) : OpR X (binaryOp .Add) (uAdd K) := by
  subst hK
  exact OpR.or (OpR.or op_add op_add_str) (OpR.or op_cat op_catT)
theorem op_umul : OpR X (binaryOp .Mult) uMul := OpR.or op_mul op_rep
theorem op_ueq {k : Nat} (hr : L2H.RoomH k X.A) (hK : X.K = K := by rfl) : OpR X (compareOp .Eq) (uEq K) := by
  subst hK
  exact OpR.or op_eq (op_eqD (by have := hr.un; omega))
theorem op_une {k : Nat} (hr : L2H.RoomH k X.A) (hK : X.K = K := by rfl) : OpR X (compareOp .NotEq) (uNe K) := by
  subst hK
  exact OpR.or op_ne (op_neD (by have := hr.un; omega))
theorem ix_dict (hu : X.A.units + 1 < cLine) : IxR X rIxD := by
  intro value slice pins s σ H x y v u Q I rx ry h hs
  obtain ⟨a, z, rfl, g, q⟩ := h
  obtain rfl : v = Value.ref a := rx
  have hT := dict_typeIs I g
  unfold subscriptTail
  refine wpAny_bind ?_
  rw [getitemInPython_of_ne hT.not_modules]
  refine wpAny_bind (wpAny_specialOf hT PySem.F.slot_dict_getitem.lookup ?_)
  have fin : wpAny (model X.prog X.w) X.A (subscripted slice false (.ref a) u)
      (fun r s₃ => wpAny (model X.prog X.w) X.A (letTemporaryGo value (.ref a) r >>= fun _ => pure r) (EP X pins σ Q) X.xe s₃) X.xe s := by
    rw [hs]
    refine wpAny_operating (d_getItem hu I g ry fun w' s3 I3 rw' => ?_)
    exact wpAny_bind (wpAny_letTemporaryGo (wpAny_pure ⟨z, H, I3, rw', q⟩))
  first
    | exact wpAny_pure (wpAny_bind fin)
    | exact wpAny_bind (wpAny_pure (wpAny_bind fin))
    | exact wpAny_bind fin
theorem units1 {k : Nat} {A : Around} (hr : L2H.RoomH k A) : A.units + 1 < cLine := by have := hr.un; omega
theorem ix_u {k : Nat} (hr : L2H.RoomH k X.A) (hK : X.K = K := by rfl) : IxR X (uIx K) := by
  subst hK
  exact IxR.or ix_seq (ix_dict (units1 hr))
theorem set_dict (hu : X.A.units + 1 < cLine) : PSet X rSetD := by
  intro pins s σ H o i v ov iv u Q I ro ri rv h
  obtain ⟨a, H', rfl, g, q⟩ := h
  obtain rfl : ov = Value.ref a := ro
  exact d_setItem hu I g ri rv fun s' I' => ⟨H', I', q⟩
theorem set_u {k : Nat} (hr : L2H.RoomH k X.A) : PSet X uSet := by
  intro pins s σ H o i v ov iv u Q I ro ri rv h
  rcases h with h | h
  · exact set_list pins s σ H o i v ov iv u Q I ro ri rv h
  · exact set_dict (units1 hr) pins s σ H o i v ov iv u Q I ro ri rv h
theorem sl_u (hK : X.K = K := by rfl) : SlR X (uSl K) := by
  subst hK
  exact SlR.or sl_list sl_tup
theorem call_ulen (hK : X.K = K := by rfl) : CallR X (.builtin "len") (uLen K) := by
  subst hK
  exact CallR.or (CallR.or call_len_seq call_len_str) call_lenD
theorem pi_u {tg l : Expr} {tl : TE} (hl : PE X l tl) (hK : X.K = K := by rfl) : PI X tg l (uIt K tl) := by
  subst hK
  constructor
  intro pins s σ H R I h
  refine thn (hl.run pins s σ H _ I h) fun v s1 hh => ?_
  obtain ⟨x, H1, I1, r1, q1⟩ := hh
  rcases q1 with ⟨a, rfl, ⟨xs, hq⟩, q⟩ | ⟨a, rfl, ⟨xs, hq⟩, q⟩ | ⟨z, rfl, q⟩
  · cases r1
    obtain ⟨its, rv, p, hz⟩ := I1.list hq
    exact wpAny_pyIter_list p.isList (pi_one (tk := s1.toks) I1 _ (turn_list a _) ⟨_, Heap.get?_push_size _ rfl, rfl, rfl⟩ q)
  · cases r1
    obtain ⟨its, rv, p, hz⟩ := I1.tuple hq
    exact wpAny_pyIter_tuple (show s1.heap.IsTuple a its.toArray from p) (pi_one (tk := s1.toks) I1 _ (turn_tuple a _) ⟨_, Heap.get?_push_size _ rfl, rfl, rfl⟩ q)
  · obtain ⟨t, rfl⟩ := r1
    cases ha : z.cps.all (· < 128)
    · exact wpAny_pyIter_wide ha (pi_one (tk := s1.toks) I1 _ (turn_str _ z t "str_iterator" (.inr rfl)) ⟨_, Heap.get?_push_size _ rfl, rfl, rfl⟩ q)
    · exact wpAny_pyIter_ascii ha (pi_one (tk := s1.toks) I1 _ (turn_str _ z t "str_ascii_iterator" (.inl rfl)) ⟨_, Heap.get?_push_size _ rfl, rfl, rfl⟩ q)
def tTru (K : PySem.W.Frag) (ta : TE) : TT := fun σ H Q => ta σ H fun x H' => ∃ k, TruV K x H' k ∧ Q k H'
theorem pt_u (ha : PE X a ta) (he : ∀ whole, isTrue a X.env whole = (do let v ← whole; standAt a.pos; holding [v] (truthy v)) := by intro _; rfl) (hK : X.K = K := by rfl) :
    PT X a (tTru K ta) := by
  subst hK
  exact pt_truth ha he
end
end RT

namespace RT
open PySem PySem.Spec PyProof.Rows L2
/-! ## 6. own errors; constants; isinstance -/
structure ExcAt (K : PySem.W.Frag) (mg : Str → Option Value) (x : Str) : Type where
  C : Addr
  g : mg x = some (.ref C)
  ex : PySem.W.excIn K C [.type "ValueError", .type "Exception", .type "BaseException", .type "object"] "ValueError.__new__" = true
  kp : PySem.W.keepIn K (.ref C) = true
  sub : PySem.W.subIn K (.ref C) (.type "BaseException") = some true
  ty : PySem.W.typeIn K (.ref C) = some (.type "type")
  cc : ExcC K C
theorem ExcAt.raises {X : Cx} {K : PySem.W.Frag} {x : Str} {mg : Str → Option Value} (h : ExcAt K mg x) (hK : X.K = K := by rfl) : Raises X (.ref h.C) := by
  subst hK
  exact raises_own h.sub h.ty
def tRaise (W : L2.WX) (cls : Value) : TS := fun _ σ H => W cls none σ H
theorem ps_raiseU {X : Cx} {K : PySem.W.Frag} {x m : Str} {mg : Str → Option Value} {W : L2.WX} {j : Nat} {p p2 pos pos2 : Pos} (h : ExcAt K mg x) (tk : L2N.Takes X W) (hc : X.calm = true := by rfl) (hK : X.K = K := by rfl) (hm : X.mg = mg := by rfl) (hg : Gl X x := by rfl)
    (hdb : (x == ("__debug__" : Str)) = false := by decide) : PS X (.Raise (some (.Call (.Name x p) [.Constant (.str m) j p2] [] pos)) none pos2) (tRaise W (.ref h.C)) := by
  subst hK hm
  exact L2N.ps_raise hc tk (L2N.pmk_own PySem.F.excBase_ValueError h.ex h.g h.kp h.raises hg hdb)
/-! a try whose clause names the error: the body and the suite are derived where they are asked -/
def tTryB (X : Cx) (body : List Stmt) (W : L2.WX) : TS := fun D σ H =>
  ∀ (pn : List (Addr × Obj)) (xe : Value → Shared → Prop), L2N.Takes (X.tr pn xe) W → PassesOwn (model X.prog X.w) X.A X.env xe →
    ∃ t, PSs (X.tr pn xe) body t ∧ t D σ H
def tTryS (X : Cx) (suite : List Stmt) (a : Addr) (cls : Value) (d : Option Addr) : TS := fun D σ H =>
  ∀ (oe : Obj) (pn : List (Addr × Obj)), L2N.Zn cls d oe → (∃ vs, oe.data = .fields vs) →
    ∃ t, PSs (X.suite a ((a, oe) :: pn)) suite t ∧ t D σ H
def tTry (X : Cx) (K : PySem.W.Frag) (c : Value) (i : Nat) (Wout : L2.WX) (body suite : List Stmt) : TS := fun D σ H =>
  tTryB X body (wAs K c i (tTryS X suite) Wout D) D σ H
theorem ps_tryU {X : Cx} {K : PySem.W.Frag} {x n : Str} {c : Value} {i : Nat} {body suite : List Stmt} {b₀ : Stmt} {np pos pos' : Pos} {Wout : L2.WX}
    (hN : X.N.Nodup) (hi : X.N[i]? = some n) (hc : Names X x c) (tk : L2N.Takes X Wout) (hs : X.stack = X.env :: X.outer := by rfl)
    (hf : X.env.frame = some X.env.locals := by rfl) (hln : X.env.kindOf n = some .local := by rfl) (hK : X.K = K := by rfl) :
    PS X (.Try body [.ExceptHandler (some (.Name x np)) (some n) (b₀ :: suite) pos'] [] [] pos) (tTry X K c i Wout body (b₀ :: suite)) := by
  subst hK
  refine L2N.ps_try_as (tb := tTryB X body) (ts := tTryS X (b₀ :: suite)) hs hf hN hi hln hc tk (fun W pn xe tk' po => ?_) (fun a oe cls d pn hz hv => ?_)
  · constructor
    intro pins s σ H D I h
    obtain ⟨t, ht, q⟩ := h pn xe tk' po
    exact ht.run pins s σ H D I q
  · constructor
    intro pins s σ H D I h
    obtain ⟨t, ht, q⟩ := h oe pn hz hv
    exact ht.run pins s σ H D I q
structure ConAt (mg : Str → Option Value) (x : Str) (v : V) : Prop where
  ex : ∃ u, mg x = some u ∧ RelV v u
theorem pe_con_ {X : Cx} {x : Str} {v : V} {pos : Pos} (h : ConAt X.mg x v) (hg : Gl X x) (hd : (x == ("__debug__" : Str)) = false := by decide) : PE X (.Name x pos) (tC v) := by
  obtain ⟨u, h1, h2⟩ := h.ex
  exact pe_glob hg h1 h2 hd
theorem hot_of {A : Around} {a : Addr} {oe : Obj} {cls : Value} {d : Option Addr} (hz : L2N.Zn cls d oe) (hf : ∃ vs, oe.data = .fields vs) : L2H.Hot1 (A.mark (some (.ref a))) (a, oe) := by
  obtain ⟨vs, hv⟩ := hf
  exact ⟨rfl, vs, hv, hz.2.2 vs hv⟩
theorem markH {k : Nat} {A : Around} {o : Option Value} (h : L2H.RoomH k A) : L2H.RoomH k (A.mark o) := ⟨h.dp, h.un⟩
theorem hot_fields {A : Around} {e : Addr × Obj} (h : L2H.Hot1 A e) : ∃ vs, e.2.data = .fields vs := by
  obtain ⟨_, vs, hv, _⟩ := h
  exact ⟨vs, hv⟩
theorem passN0 {X : Cx} : Passes (L2N.CX X.prog X.w) X E0 := fun pins σ H s e s' I h => passN σ pins H s e s' I h
/-- isinstance by a built-in type's name -/
def isF (x : V) (S : String) : Bool := match x with
  | .non => S == "NoneType"
  | .bl _ => S == "bool" || S == "int"
  | .int _ => S == "int"
  | .str _ => S == "str"
  | _ => false
theorem kits : kitB "NoneType" "int" = some false ∧ kitB "NoneType" "bool" = some false ∧ kitB "NoneType" "str" = some false ∧ kitB "NoneType" "tuple" = some false ∧ kitB "NoneType" "list" = some false ∧ kitB "NoneType" "dict" = some false := by decide +kernel
theorem kitb : kitB "bool" "int" = some true ∧ kitB "bool" "bool" = some true ∧ kitB "bool" "str" = some false ∧ kitB "bool" "tuple" = some false ∧ kitB "bool" "list" = some false ∧ kitB "bool" "dict" = some false := by decide +kernel
theorem kiti : kitB "int" "int" = some true ∧ kitB "int" "bool" = some false ∧ kitB "int" "str" = some false ∧ kitB "int" "tuple" = some false ∧ kitB "int" "list" = some false ∧ kitB "int" "dict" = some false := by decide +kernel
theorem kitt : kitB "str" "int" = some false ∧ kitB "str" "bool" = some false ∧ kitB "str" "str" = some true ∧ kitB "str" "tuple" = some false ∧ kitB "str" "list" = some false ∧ kitB "str" "dict" = some false := by decide +kernel
theorem kitu : kitB "tuple" "int" = some false ∧ kitB "tuple" "bool" = some false ∧ kitB "tuple" "str" = some false ∧ kitB "tuple" "tuple" = some true ∧ kitB "tuple" "list" = some false ∧ kitB "tuple" "dict" = some false := by decide +kernel
theorem kitl : kitB "list" "int" = some false ∧ kitB "list" "bool" = some false ∧ kitB "list" "str" = some false ∧ kitB "list" "tuple" = some false ∧ kitB "list" "list" = some true ∧ kitB "list" "dict" = some false := by decide +kernel
theorem kitd : kitB "dict" "int" = some false ∧ kitB "dict" "bool" = some false ∧ kitB "dict" "str" = some false ∧ kitB "dict" "tuple" = some false ∧ kitB "dict" "list" = some false ∧ kitB "dict" "dict" = some true := by decide +kernel
def sixT (S : String) : Prop := S = "int" ∨ S = "bool" ∨ S = "str" ∨ S = "tuple" ∨ S = "list" ∨ S = "dict"
def uIsi (K : PySem.W.Frag) : List V → Hp → VK → Prop := rIsi K
theorem call_uisi {X : Cx} {K : PySem.W.Frag} (hK : X.K = K := by rfl) : CallR X (.builtin "isinstance") (uIsi K) := by
  subst hK
  exact call_isi
theorem v_isi_flat {K : PySem.W.Frag} {x : V} {S : String} {H : Hp} {Q : VK} (f : flatV x = true) (hS : sixT S) (q : Q (.bl (isF x S)) H) : uIsi K [x, .ty S] H Q := by
  have key : ∃ t, TyX K H x (.type t) ∧ kitB t S = some (isF x S) := by
    obtain ⟨a1, a2, a3, a4, a5, a6⟩ := kits
    obtain ⟨b1, b2, b3, b4, b5, b6⟩ := kitb
    obtain ⟨c1, c2, c3, c4, c5, c6⟩ := kiti
    obtain ⟨d1, d2, d3, d4, d5, d6⟩ := kitt
    cases x with
    | non => exact ⟨_, .base .non, by rcases hS with rfl | rfl | rfl | rfl | rfl | rfl <;> assumption⟩
    | bl b => exact ⟨_, .base (.bl b), by rcases hS with rfl | rfl | rfl | rfl | rfl | rfl <;> assumption⟩
    | int i => exact ⟨_, .base (.int i), by rcases hS with rfl | rfl | rfl | rfl | rfl | rfl <;> assumption⟩
    | str z => exact ⟨_, .base (.str z), by rcases hS with rfl | rfl | rfl | rfl | rfl | rfl <;> assumption⟩
    | byt b => exact absurd f (by simp [flatV])
    | flt b => exact absurd f (by simp [flatV])
    | ref a => exact absurd f (by simp [flatV])
    | ty n => exact absurd f (by simp [flatV])
  obtain ⟨t, h1, h2⟩ := key
  exact ⟨x, .ty S, _, _, _, rfl, .ty S, h1, kit_ty h2, q⟩
theorem v_isi_tup {K : PySem.W.Frag} {a : Addr} {xs : List V} {S : String} {H : Hp} {Q : VK} (h : H a = some (.tup xs)) (hS : sixT S) (q : Q (.bl (S == "tuple")) H) : uIsi K [.ref a, .ty S] H Q := by
  obtain ⟨d1, d2, d3, d4, d5, d6⟩ := kitu
  refine ⟨_, .ty S, _, _, _, rfl, .ty S, .base (.tup h), kit_ty (?_ : _ = some (S == "tuple")), q⟩
  rcases hS with rfl | rfl | rfl | rfl | rfl | rfl <;> assumption
theorem v_isi_lst {K : PySem.W.Frag} {a : Addr} {xs : List V} {S : String} {H : Hp} {Q : VK} (h : H a = some (.lst xs)) (hS : sixT S) (q : Q (.bl (S == "list")) H) : uIsi K [.ref a, .ty S] H Q := by
  obtain ⟨d1, d2, d3, d4, d5, d6⟩ := kitl
  refine ⟨_, .ty S, _, _, _, rfl, .ty S, .base (.lst h), kit_ty (?_ : _ = some (S == "list")), q⟩
  rcases hS with rfl | rfl | rfl | rfl | rfl | rfl <;> assumption
theorem v_isi_dic {K : PySem.W.Frag} {a : Addr} {kvs : List (Key × V)} {S : String} {H : Hp} {Q : VK} (h : H a = some (.dK kvs)) (hS : sixT S) (q : Q (.bl (S == "dict")) H) : uIsi K [.ref a, .ty S] H Q := by
  obtain ⟨d1, d2, d3, d4, d5, d6⟩ := kitd
  refine ⟨_, .ty S, _, _, _, rfl, .ty S, .base (.dK h), kit_ty (?_ : _ = some (S == "dict")), q⟩
  rcases hS with rfl | rfl | rfl | rfl | rfl | rfl <;> assumption
theorem v_isE {K : PySem.W.Frag} {D a : Addr} {c : V} {cv : Value} {b : Bool} {H : Hp} {Q : VK} (C : ExcC K D) (hcv : ∀ u, RelV c u → u = cv)
    (hk : PySem.W.kitOne K (.ref D) cv = some b) (q : Q (.bl b) H) : uIsE K (.ref D) none a [.ref a, c] H Q := ⟨D, c, cv, b, rfl, rfl, C, rfl, hcv, hk, q⟩
/-! ## 7. more of what takes what comes -/
section
variable {X : Cx} {K : PySem.W.Frag}
def uMax (K : PySem.W.Frag) := rMax K
def uMin (K : PySem.W.Frag) := rMin K
def uSum (K : PySem.W.Frag) := rSum K
def uAll (K : PySem.W.Frag) := rAll K
def uAny (K : PySem.W.Frag) := rAny K
theorem cr_umax (hc : X.calm = true) (hK : X.K = K := by rfl) : CallR X (.builtin "max") (uMax K) := by subst hK; exact cr_max hc
theorem cr_umin (hc : X.calm = true) (hK : X.K = K := by rfl) : CallR X (.builtin "min") (uMin K) := by subst hK; exact cr_min hc
theorem cr_usum (hc : X.calm = true) (hK : X.K = K := by rfl) : CallR X (.builtin "sum") (uSum K) := by subst hK; exact cr_sum hc
theorem cr_uall (hc : X.calm = true) (hK : X.K = K := by rfl) : CallR X (.builtin "all") (uAll K) := by subst hK; exact cr_all hc
theorem cr_uany (hc : X.calm = true) (hK : X.K = K := by rfl) : CallR X (.builtin "any") (uAny K) := by subst hK; exact cr_any hc
def uMax2 : List V → Hp → VK → Prop := fun xs H Q => ∃ i j, xs = [.int i, .int j] ∧ Q (.int (if j > i then j else i)) H
def uMin2 : List V → Hp → VK → Prop := fun xs H Q => ∃ i j, xs = [.int i, .int j] ∧ Q (.int (if j < i then j else i)) H
theorem call_umax2 (hc : X.calm = true) : CallR X (.builtin "max") uMax2 := call_max2 hc
theorem call_umin2 (hc : X.calm = true) : CallR X (.builtin "min") uMin2 := call_min2 hc
def uInt1 : List V → Hp → VK → Prop := fun xs H Q => (∃ i, xs = [.int i] ∧ Q (.int i) H) ∨ ∃ k, xs = [.bl k] ∧ Q (.int (if k then 1 else 0)) H
theorem call_uint1 : CallR X (.type "int") uInt1 := call_int1
def uStrI : List V → Hp → VK → Prop := fun xs H Q => ∃ i, xs = [.int i] ∧ i.natAbs.log2 < 1920 ∧ Q (.str (toString i)) H
theorem call_ustr : CallR X (.type "str") uStrI := call_str_int
def uSorted (K : PySem.W.Frag) : List V → Hp → VK → Prop := fun vs H Q => rSortedI K vs H Q ∨ rSortedS K vs H Q
theorem cr_usorted (hK : X.K = K := by rfl) : CallR X (.builtin "sorted") (uSorted K) := by subst hK; exact CallR.or cr_sortedI cr_sortedS
def uLt : R2 := fun x y H Q => rI0 (fun i j => .bl (decide (i < j))) x y H Q ∨ ∃ i j, x = .str i ∧ y = .str j ∧ Q (.bl (decide (i.cps.toList < j.cps.toList))) H
theorem op_ult : OpR X (compareOp .Lt) uLt := OpR.or op_lt op_lt_str
def rInD (neg : Bool) : R2 := fun y x H Q => ∃ a o, x = .ref a ∧ DGet H a y o ∧ Q (.bl (if neg then !o.isSome else o.isSome)) H
theorem op_inD (hu : X.A.units + 1 < cLine) : OpR X (compareOp .In) (rInD false) := by
  intro pins s σ H y x u v Q I ry rx h
  obtain ⟨a, o, rfl, g, q⟩ := h
  obtain rfl : v = Value.ref a := rx
  exact d_in hu I g ry fun s' I' => ⟨.bl o.isSome, H, I', rfl, q⟩
theorem op_ninD (hu : X.A.units + 1 < cLine) : OpR X (compareOp .NotIn) (rInD true) := by
  intro pins s σ H y x u v Q I ry rx h
  obtain ⟨a, o, rfl, g, q⟩ := h
  obtain rfl : v = Value.ref a := rx
  exact d_notIn hu I g ry fun s' I' => ⟨.bl (!o.isSome), H, I', rfl, q⟩
def uIn (K : PySem.W.Frag) (neg : Bool) : R2 := fun x y H Q => (rIn K neg x y H Q ∨ rInD neg x y H Q) ∨
  ∃ i j, x = .str i ∧ y = .str j ∧ Q (.bl (if neg then !(!(Builtin.Str.occurrences j i 0 j.length 1).isEmpty) else !(Builtin.Str.occurrences j i 0 j.length 1).isEmpty)) H
theorem op_uin {k : Nat} (hr : L2H.RoomH k X.A) (hK : X.K = K := by rfl) : OpR X (compareOp .In) (uIn K false) := by
  subst hK
  exact OpR.or (OpR.or op_in_seq (op_inD (units1 hr))) op_in_str
theorem op_unin {k : Nat} (hr : L2H.RoomH k X.A) (hK : X.K = K := by rfl) : OpR X (compareOp .NotIn) (uIn K true) := by
  subst hK
  exact OpR.or (OpR.or op_notIn_seq (op_ninD (units1 hr))) op_notin_str
theorem ip_uadd : PIp X .Add (ipI fun i j => i + j) := ip_add
theorem ip_usub : PIp X .Sub (ipI fun i j => i - j) := ip_sub
def uList (K : PySem.W.Frag) : List V → Hp → VK → Prop := fun xs H Q => (∃ p ys, xs = [.ref p] ∧ (SqL K H p ys ∨ SqT K H p ys) ∧ ∀ l, H l = none → Q (.ref l) (upd H l (.lst ys))) ∨ rListD xs H Q
theorem call_ulist (hc : X.calm = true) (hK : X.K = K := by rfl) : CallR X (.type "list") (uList K) := by subst hK; exact CallR.or call_list_of (call_list_dK hc)
def uTuple (K : PySem.W.Frag) : List V → Hp → VK → Prop := fun xs H Q => ∃ p ys, xs = [.ref p] ∧ ((SqL K H p ys ∧ ∀ l, H l = none → Q (.ref l) (upd H l (.tup ys))) ∨ (SqT K H p ys ∧ Q (.ref p) H))
theorem call_utuple (hK : X.K = K := by rfl) : CallR X (.type "tuple") (uTuple K) := by subst hK; exact call_tuple_of
def tNotU (t : TT) : TE := fun σ H Q => t σ H fun c H1 => Q (.bl (!c)) H1
end
/-! ## 8. heaps: what stands -/
structure Chg (S : List Addr) (H H' : Hp) : Prop where
  keep : ∀ {b o}, H b = some o → b ∉ S → H' b = some o
  tup : ∀ {b xs}, H b = some (.tup xs) → H' b = some (.tup xs)
  dom : ∀ {b}, H' b = none → H b = none
theorem Chg.refl {S : List Addr} {H : Hp} : Chg S H H := ⟨fun h _ => h, fun h => h, fun h => h⟩
theorem Chg.at {H H' : Hp} (c : Chg [] H H') {b : Addr} {o : HO} (h : H b = some o) : H' b = some o := c.keep h (by simp)
theorem Chg.same {H H' : Hp} (c : Chg [] H H') : Same H H' := fun _ _ h => c.at h
theorem Chg.mono {S S' : List Addr} {H H' : Hp} (c : Chg S H H') (h : ∀ b ∈ S, b ∈ S') : Chg S' H H' :=
  ⟨fun e n => c.keep e fun m => n (h _ m), c.tup, c.dom⟩
theorem Chg.of0 {S : List Addr} {H H' : Hp} (c : Chg [] H H') : Chg S H H' := c.mono (by simp)
theorem Chg.trans {S : List Addr} {H H1 H2 : Hp} (a : Chg S H H1) (b : Chg S H1 H2) : Chg S H H2 :=
  ⟨fun e n => b.keep (a.keep e n) n, fun e => b.tup (a.tup e), fun e => a.dom (b.dom e)⟩
/-- what is changed besides was new -/
theorem Chg.trans' {S S' : List Addr} {H H1 H2 : Hp} (a : Chg S H H1) (b : Chg S' H1 H2) (hn : ∀ l ∈ S', l ∈ S ∨ H l = none) : Chg S H H2 :=
  ⟨fun {c o} e n => b.keep (a.keep e n) fun m => (hn c m).elim n fun z => (by rw [z] at e; cases e), fun e => b.tup (a.tup e), fun e => a.dom (b.dom e)⟩
theorem Chg.new {H : Hp} {p : Addr} {o : HO} (h : H p = none) : Chg [] H (upd H p o) := by
  refine ⟨fun {b u} e _ => ?_, fun {b u} e => ?_, fun {b} e => ?_⟩
  · rw [upd_ne (ne_of_none e h)]; exact e
  · rw [upd_ne (ne_of_none e h)]; exact e
  · by_cases hb : b = p
    · subst hb; exact h
    · rw [upd_ne hb] at e; exact e
theorem Chg.set {H : Hp} {p : Addr} {o u : HO} (h : H p = some u) (hu : ∀ xs, u ≠ .tup xs) : Chg [p] H (upd H p o) := by
  refine ⟨fun {b v} e n => ?_, fun {b xs} e => ?_, fun {b} e => ?_⟩
  · rw [upd_ne (by simpa using n)]; exact e
  · have : b ≠ p := fun z => by subst z; rw [h] at e; exact hu xs (Option.some.inj e)
    rw [upd_ne this]; exact e
  · by_cases hb : b = p
    · subst hb; rw [upd_same] at e; cases e
    · rw [upd_ne hb] at e; exact e
theorem Chg.ne {S : List Addr} {H H' : Hp} (c : Chg S H H') {p q : Addr} {o : HO} (hp : H' p = none) (hq : H q = some o) : q ≠ p := by
  intro e; subst e; rw [c.dom hp] at hq; cases hq
theorem Chg.seqL {K : PySem.W.Frag} {H H' : Hp} (c : Chg [] H H') {a : Addr} {xs : List V} (h : SqL K H a xs) : SqL K H' a xs := c.same.seq h
theorem Chg.seqT {K : PySem.W.Frag} {H H' : Hp} (c : Chg [] H H') {a : Addr} {xs : List V} (h : SqT K H a xs) : SqT K H' a xs := by
  rcases h with (h | ⟨o, h⟩) | h
  · exact .inl (.inl (c.at h))
  · exact .inl (.inr ⟨o, c.at h⟩)
  · exact .inr h
end RT

namespace RT
open PySem PySem.Spec PyProof.Rows L2
/-! ## 9. the readings, from the left, one step a lemma -/
section
variable {t u : TS} {n : L2.St → Hp → Prop} {r : VK} {b c : L2.St → Hp → Prop} {σ : L2.St} {H : Hp} {te tf : TE} {g : TG} {Q : VK} {i : Nat} {v x y : V}
theorem v_seq (h : t ⟨u ⟨n, r, b, c⟩, r, b, c⟩ σ H) : tSeq t u ⟨n, r, b, c⟩ σ H := h
theorem v_next (h : n σ H) : tNext ⟨n, r, b, c⟩ σ H := h
theorem v_break (h : b σ H) : tBreak ⟨n, r, b, c⟩ σ H := h
theorem v_cont (h : c σ H) : tCont ⟨n, r, b, c⟩ σ H := h
theorem v_asg (h : te σ H fun x H1 => g x σ H1 n) : tAsg te g ⟨n, r, b, c⟩ σ H := h
theorem v_name {Q : L2.St → Hp → Prop} (h : Q (σ.set i (some v)) H) : gName i v σ H Q := h
theorem v_drop (h : te σ H fun _ H1 => n σ H1) : tDrop te ⟨n, r, b, c⟩ σ H := h
theorem v_ret (h : te σ H r) : tRet te ⟨n, r, b, c⟩ σ H := h
theorem v_retN (h : r .non H) : tRetN ⟨n, r, b, c⟩ σ H := h
theorem v_ifs {tc : TT} (h : tc σ H fun k H1 => if k = true then t ⟨n, r, b, c⟩ σ H1 else u ⟨n, r, b, c⟩ σ H1) : tIfS tc t u ⟨n, r, b, c⟩ σ H := h
/-- where two ways meet again: what holds there -/
theorem v_join {U : L2.St → Hp → Prop} (R : L2.St → Hp → Prop) (k : ∀ σ H, R σ H → U σ H) (h : ∀ U : L2.St → Hp → Prop, (∀ σ H, R σ H → U σ H) → t ⟨U, r, b, c⟩ σ H) : t ⟨U, r, b, c⟩ σ H := h U k
theorem v_aug {ti : TIp} (h : σ[i]? = some (some x)) (q : te σ H fun y H1 => ti x y H1 fun z H2 => n (σ.set i (some z)) H2) : tAug i te ti ⟨n, r, b, c⟩ σ H := ⟨x, h, q⟩
theorem v_ipI {f : Int → Int → Int} {i j : Int} (q : Q (.int (f i j)) H) : ipI f (.int i) (.int j) H Q := ⟨_, _, rfl, rfl, q⟩
theorem v_var (h : σ[i]? = some (some v)) (q : Q v H) : tVar i σ H Q := ⟨v, h, q⟩
theorem v_c (q : Q v H) : tC v σ H Q := q
theorem v_op {rr : R2} (h : te σ H fun x H1 => tf σ H1 fun y H2 => rr x y H2 Q) : tOp rr te tf σ H Q := h
theorem v_un {rr : V → Hp → VK → Prop} (h : te σ H fun x H1 => rr x H1 Q) : tUn rr te σ H Q := h
def IsB (x : V) (P : Bool → Prop) : Prop := ∃ k, x = .bl k ∧ P k
theorem v_isb {P : Bool → Prop} {k : Bool} (h : P k) : IsB (.bl k) P := ⟨k, rfl, h⟩
theorem v_test {Q : Bool → Hp → Prop} (h : te σ H fun x H1 => IsB x fun k => Q k H1) : tTest te σ H Q := h
theorem v_tb {Q : Bool → Hp → Prop} (h : te σ H fun x H1 => IsB x fun k => Q k H1) : tB te σ H Q := h
def Tru (K : PySem.W.Frag) (x : V) (H : Hp) (P : Bool → Prop) : Prop := ∃ k, TruV K x H k ∧ P k
theorem v_tru {K : PySem.W.Frag} {Q : Bool → Hp → Prop} (h : te σ H fun x H1 => Tru K x H1 fun k => Q k H1) : tTru K te σ H Q := h
theorem v_tru_b {K : PySem.W.Frag} {P : Bool → Prop} {k : Bool} (h : P k) : Tru K (.bl k) H P := ⟨k, rfl, h⟩
theorem v_tru_i {K : PySem.W.Frag} {P : Bool → Prop} {i : Int} (h : P (i != 0)) : Tru K (.int i) H P := ⟨_, rfl, h⟩
theorem v_tru_n {K : PySem.W.Frag} {P : Bool → Prop} (h : P false) : Tru K .non H P := ⟨_, rfl, h⟩
theorem v_tru_l {K : PySem.W.Frag} {P : Bool → Prop} {a : Addr} {xs : List V} (hl : SqL K H a xs) (h : P (!xs.isEmpty)) : Tru K (.ref a) H P := ⟨_, .inl ⟨xs, hl, rfl⟩, h⟩
theorem v_tru_t {K : PySem.W.Frag} {P : Bool → Prop} {a : Addr} {xs : List V} (hl : SqT K H a xs) (h : P (!xs.isEmpty)) : Tru K (.ref a) H P := ⟨_, .inr (.inl ⟨xs, hl, rfl⟩), h⟩
theorem v_and {t u : TT} {Q : Bool → Hp → Prop} (h : t σ H fun k H1 => if k = true then u σ H1 Q else Q false H1) : tAnd t u σ H Q := h
theorem v_or {t u : TT} {Q : Bool → Hp → Prop} (h : t σ H fun k H1 => if k = true then Q true H1 else u σ H1 Q) : tOr t u σ H Q := h
theorem v_not {t : TT} {Q : Bool → Hp → Prop} (h : t σ H fun k H1 => Q (!k) H1) : tNot t σ H Q := h
theorem v_notU {t : TT} (h : t σ H fun k H1 => Q (.bl (!k)) H1) : tNotU t σ H Q := h
theorem v_andV (h : te σ H fun x H1 => IsB x fun k => if k = true then tf σ H1 Q else Q (.bl false) H1) : tAndV te tf σ H Q := h
theorem v_orV (h : te σ H fun x H1 => IsB x fun k => if k = true then Q (.bl true) H1 else tf σ H1 Q) : tOrV te tf σ H Q := h
theorem v_ifE {t : TT} (h : t σ H fun k H1 => if k = true then te σ H1 Q else tf σ H1 Q) : tIf t te tf σ H Q := h
theorem v_chain {rr rs : R2} {tg : TE} (h : te σ H fun x H1 => tf σ H1 fun y H2 => rr x y H2 fun z H3 => IsB z fun k => if k = true then tg σ H3 fun w' H4 => rs y w' H4 Q else Q (.bl false) H3) : tChain rr rs te tf tg σ H Q := h
theorem v_nil {Q : List V → Hp → Prop} (h : Q [] H) : tNil σ H Q := h
theorem v_cons {tr : TA} {Q : List V → Hp → Prop} (h : te σ H fun x H1 => tr σ H1 fun xs H2 => Q (x :: xs) H2) : tCons te tr σ H Q := h
theorem v_callS {sp : Sp} {E : L2.St → XK} {ta : TA} (h : ta σ H fun vs H1 => sp vs H1 Q (E σ)) : tCallS sp E ta σ H Q := h
theorem v_call {sp : Sp} {E : XK} {ta : TA} (h : ta σ H fun vs H1 => sp (vs ++ []) H1 Q E) : tCall sp [] E ta σ H Q := h
theorem v_cb {rr : List V → Hp → VK → Prop} {ta : TA} (h : ta σ H fun vs H1 => rr vs H1 Q) : tCB rr ta σ H Q := h
def BM (K : PySem.W.Frag) (T : String) (x : V) (H : Hp) (P : Prop) : Prop := tyV K T x H ∧ P
theorem v_bm {K : PySem.W.Frag} {T : String} {rr : V → List V → Hp → VK → Prop} {ta : TA} (h : te σ H fun x H1 => BM K T x H1 (ta σ H1 fun xs H2 => rr x xs H2 Q)) : tBM K T rr te ta σ H Q := h
theorem v_bm0 {K : PySem.W.Frag} {T : String} {rr : V → List V → Hp → VK → Prop} (h : te σ H fun x H1 => BM K T x H1 (rr x [] H1 Q)) : tBM0 K T rr te σ H Q := h
theorem v_bml {K : PySem.W.Frag} {p : Addr} {xs : List V} {P : Prop} (h : SqL K H p xs) (q : P) : BM K "list" (.ref p) H P := ⟨.inl ⟨rfl, xs, h⟩, q⟩
theorem v_bms {K : PySem.W.Frag} {z : Str} {P : Prop} (q : P) : BM K "str" (.str z) H P := ⟨rfl, q⟩
def NewL (xs : List V) (H : Hp) (Q : VK) : Prop := xs.length ≤ sizeLine ∧ ∀ p, H p = none → Q (.ref p) (upd H p (.lst xs))
def NewT (xs : List V) (H : Hp) (Q : VK) : Prop := xs.length ≤ sizeLine ∧ ∀ p, H p = none → Q (.ref p) (upd H p (.tup xs))
theorem v_lst {ta : TA} (h : ta σ H fun xs H1 => NewL xs H1 Q) : tLst ta σ H Q := h
theorem v_tup {ta : TA} (h : ta σ H fun xs H1 => NewT xs H1 Q) : tTup ta σ H Q := h
theorem v_newL {xs : List V} (hl : xs.length ≤ sizeLine) (h : ∀ p H', H p = none → Chg [] H H' → H' p = some (.lst xs) → Q (.ref p) H') : NewL xs H Q :=
  ⟨hl, fun p hp => h p _ hp (.new hp) upd_same⟩
theorem v_newT {xs : List V} (hl : xs.length ≤ sizeLine) (h : ∀ p H', H p = none → Chg [] H H' → H' p = some (.tup xs) → Q (.ref p) H') : NewT xs H Q :=
  ⟨hl, fun p hp => h p _ hp (.new hp) upd_same⟩
theorem v_iteT {A B : Prop} (h : A) : if true = true then A else B := by rw [if_pos rfl]; exact h
theorem v_iteF {A B : Prop} (h : B) : if false = true then A else B := by rw [if_neg Bool.false_ne_true]; exact h
theorem v_iteD {p A B : Prop} [Decidable p] (h1 : p → A) (h2 : ¬ p → B) : if decide p = true then A else B := by
  by_cases h : p
  · rw [decide_eq_true h]; exact v_iteT (h1 h)
  · rw [decide_eq_false h]; exact v_iteF (h2 h)
theorem v_iteN {p A B : Prop} [Decidable p] (h1 : ¬ p → A) (h2 : p → B) : if (!decide p) = true then A else B := by
  by_cases h : p
  · rw [decide_eq_true h]; exact v_iteF (h2 h)
  · rw [decide_eq_false h]; exact v_iteT (h1 h)
theorem v_iteNT {A B : Prop} (h : B) : if (!true) = true then A else B := v_iteF h
theorem v_iteNF {A B : Prop} (h : A) : if (!false) = true then A else B := v_iteT h
theorem v_iteB {k : Bool} {A B : Prop} (h1 : k = true → A) (h2 : k = false → B) : if k = true then A else B := by
  cases k
  · exact v_iteF (h2 rfl)
  · exact v_iteT (h1 rfl)
theorem v_iteNB {k : Bool} {A B : Prop} (h1 : k = false → A) (h2 : k = true → B) : if (!k) = true then A else B := by
  cases k
  · exact v_iteT (h1 rfl)
  · exact v_iteF (h2 rfl)
def IsI (x : V) (P : Int → Prop) : Prop := ∃ i, x = .int i ∧ P i
/-- by values -/
theorem v_rI0 {f : Int → Int → V} {i j : Int} (q : Q (f i j) H) : rI0 f (.int i) (.int j) H Q := ⟨_, _, rfl, rfl, q⟩
theorem v_rI {C : Int → Int → Prop} {f : Int → Int → V} {i j : Int} (hc : C i j) (q : Q (f i j) H) : rI C f (.int i) (.int j) H Q := ⟨_, _, rfl, rfl, hc, q⟩
theorem v_rU {f : Int → V} {i : Int} (q : Q (f i) H) : rU f (.int i) H Q := ⟨_, rfl, q⟩
variable {K : PySem.W.Frag}
theorem v_add_ii {i j : Int} (q : Q (.int (i + j)) H) : uAdd K (.int i) (.int j) H Q := .inl (.inl ⟨_, _, rfl, rfl, q⟩)
theorem v_add_ss {i j : Str} (hl : i.length + j.length ≤ sizeLine) (q : Q (.str (i ++ j)) H) : uAdd K (.str i) (.str j) H Q := .inl (.inr ⟨_, _, rfl, rfl, hl, q⟩)
theorem v_add_ll {a b : Addr} {xs ys : List V} (h1 : H a = some (.lst xs)) (h2 : H b = some (.lst ys)) (hl : xs.length + ys.length ≤ sizeLine)
    (q : ∀ p H', H p = none → Chg [] H H' → H' p = some (.lst (xs ++ ys)) → Q (.ref p) H') : uAdd K (.ref a) (.ref b) H Q :=
  .inr (.inl ⟨a, b, xs, ys, rfl, rfl, h1, h2, hl, fun p hp => q p _ hp (.new hp) upd_same⟩)
theorem v_mul_ii {i j : Int} (hc : CMul i j) (q : Q (.int (i * j)) H) : uMul (.int i) (.int j) H Q := .inl ⟨_, _, rfl, rfl, hc, q⟩
theorem v_eq_ii {i j : Int} (q : Q (.bl (decide (i = j))) H) : uEq K (.int i) (.int j) H Q := .inl ⟨rfl, by rw [dec_int, show (i == j) = decide (i = j) from rfl]; exact q⟩
theorem v_ne_ii {i j : Int} (q : Q (.bl (!decide (i = j))) H) : uNe K (.int i) (.int j) H Q := .inl ⟨rfl, by rw [dec_int, show (i == j) = decide (i = j) from rfl]; exact q⟩
theorem v_eq_ss {i j : Str} (q : Q (.bl (decide (i = j))) H) : uEq K (.str i) (.str j) H Q := .inl ⟨rfl, by rw [dec_str, show (i == j) = decide (i = j) from rfl]; exact q⟩
theorem v_ne_ss {i j : Str} (q : Q (.bl (!decide (i = j))) H) : uNe K (.str i) (.str j) H Q := .inl ⟨rfl, by rw [dec_str, show (i == j) = decide (i = j) from rfl]; exact q⟩
theorem v_eq_d {x y : V} {d e : PyData} (h1 : Dp K H x d) (h2 : Dp K H y e) (s1 : SeqAt.shaped d = true) (s2 : SeqAt.shaped e = true) (q : Q (.bl (PyData.eqv d e)) H) : uEq K x y H Q := .inr ⟨d, e, h1, h2, s1, s2, q⟩
theorem v_ne_d {x y : V} {d e : PyData} (h1 : Dp K H x d) (h2 : Dp K H y e) (s1 : SeqAt.shaped d = true) (s2 : SeqAt.shaped e = true) (q : Q (.bl (!PyData.eqv d e)) H) : uNe K x y H Q := .inr ⟨d, e, h1, h2, s1, s2, q⟩
theorem v_eq_bb {i j : Bool} (q : Q (.bl (i == j)) H) : uEq K (.bl i) (.bl j) H Q := .inl ⟨rfl, by rw [dec_bl]; exact q⟩
theorem v_ne_bb {i j : Bool} (q : Q (.bl (!(i == j))) H) : uNe K (.bl i) (.bl j) H Q := .inl ⟨rfl, by rw [dec_bl]; exact q⟩
theorem v_bits (h : te σ H fun x H1 => IsI x fun i => Q (.int (Builtin.Int.intBits i : Nat)) H1) : tBits te σ H Q := h
theorem v_lt_ii {i j : Int} (q : Q (.bl (decide (i < j))) H) : uLt (.int i) (.int j) H Q := .inl ⟨_, _, rfl, rfl, q⟩
theorem v_len_l {a : Addr} {xs : List V} (h : SqL K H a xs) (q : Q (.int xs.length) H) : uLen K [.ref a] H Q := .inl (.inl ⟨a, xs, rfl, .inl h, q⟩)
theorem v_len_t {a : Addr} {xs : List V} (h : SqT K H a xs) (q : Q (.int xs.length) H) : uLen K [.ref a] H Q := .inl (.inl ⟨a, xs, rfl, .inr h, q⟩)
theorem v_len_s {z : Str} (h : z.length ≤ sizeLine) (q : Q (.int z.length) H) : uLen K [.str z] H Q := .inl (.inr ⟨z, rfl, h, q⟩)
theorem v_ix_l {a : Addr} {xs : List V} {i : Int} {v : V} (h : SqL K H a xs) (hi : atI xs i = some v) (q : Q v H) : uIx K (.ref a) (.int i) H Q := .inl (.inl ⟨a, xs, i, v, rfl, rfl, h, hi, q⟩)
theorem v_ix_t {a : Addr} {xs : List V} {i : Int} {v : V} (h : SqT K H a xs) (hi : atI xs i = some v) (q : Q v H) : uIx K (.ref a) (.int i) H Q := .inl (.inr (.inl ⟨a, xs, i, v, rfl, rfl, h, hi, q⟩))
/-- an item at some place -/
theorem atI_some {α : Type} {xs : List α} {i : Int} (h0 : 0 ≤ i) (h1 : i < xs.length) : ∃ v, atI xs i = some v ∧ xs[i.toNat]? = some v := by
  obtain ⟨k, rfl⟩ := Int.eq_ofNat_of_zero_le h0
  have hk : k < xs.length := by omega
  exact ⟨xs[k], atI_nat (List.getElem?_eq_getElem hk), by simpa using List.getElem?_eq_getElem hk⟩
theorem v_ix_lany {a : Addr} {xs : List V} {i : Int} (h : SqL K H a xs) (h0 : 0 ≤ i) (h1 : i < xs.length) (q : ∀ v, xs[i.toNat]? = some v → Q v H) : uIx K (.ref a) (.int i) H Q := by
  obtain ⟨v, e1, e2⟩ := atI_some (xs := xs) h0 h1
  exact v_ix_l h e1 (q v e2)
theorem v_ix_tany {a : Addr} {xs : List V} {i : Int} (h : SqT K H a xs) (h0 : 0 ≤ i) (h1 : i < xs.length) (q : ∀ v, xs[i.toNat]? = some v → Q v H) : uIx K (.ref a) (.int i) H Q := by
  obtain ⟨v, e1, e2⟩ := atI_some (xs := xs) h0 h1
  exact v_ix_t h e1 (q v e2)
theorem v_sl_l {a : Addr} {xs : List V} {lo hi : Option Int} (h : SqL K H a xs) (q : ∀ p H', H p = none → Chg [] H H' → H' p = some (.lst (cutV xs lo hi)) → Q (.ref p) H') : uSl K (.ref a) lo hi H Q :=
  .inl ⟨a, xs, rfl, h, fun p hp => q p _ hp (.new hp) upd_same⟩
theorem v_sl {rr : V → Option Int → Option Int → Hp → VK → Prop} {tl th : TO} (h : te σ H fun x H1 => tl σ H1 fun l H2 => th σ H2 fun u H3 => rr x l u H3 Q) : tSl rr te tl th σ H Q := h
theorem v_nopart {Q : Option Int → Hp → Prop} (h : Q none H) : tNoPart σ H Q := h
theorem v_isi {P : Int → Prop} {i : Int} (h : P i) : IsI (.int i) P := ⟨i, rfl, h⟩
theorem v_part {Q : Option Int → Hp → Prop} (h : te σ H fun x H1 => IsI x fun i => Q (some i) H1) : tPart te σ H Q := h
theorem v_append {a : Addr} {xs : List V} {y : V} (h : H a = some (.lst xs)) (hl : xs.length < sizeLine) (q : ∀ H', Chg [a] H H' → H' a = some (.lst (xs ++ [y])) → Q .non H') : rAppend (.ref a) [y] H Q :=
  ⟨a, xs, y, rfl, rfl, h, hl, q _ (.set h (by intro _ e; cases e)) upd_same⟩
theorem v_cnt {a : Addr} {xs : List V} {y : V} (h : SqL K H a xs) (fy : flatV y = true) (fx : xs.all flatV = true) (q : Q (.int (xs.countP fun z => eqV z y : Nat)) H) : uCnt K (.ref a) [y] H Q := ⟨a, xs, y, rfl, rfl, h, fy, fx, q⟩
theorem v_max2 {i j : Int} (q : Q (.int (if j > i then j else i)) H) : uMax2 [.int i, .int j] H Q := ⟨_, _, rfl, q⟩
theorem v_min2 {i j : Int} (q : Q (.int (if j < i then j else i)) H) : uMin2 [.int i, .int j] H Q := ⟨_, _, rfl, q⟩
theorem v_int_i {i : Int} (q : Q (.int i) H) : uInt1 [.int i] H Q := .inl ⟨_, rfl, q⟩
theorem v_int_b {k : Bool} (q : Q (.int (if k then 1 else 0)) H) : uInt1 [.bl k] H Q := .inr ⟨_, rfl, q⟩
theorem v_sorted_i {a : Addr} {ns : List Int} (h : SqL K H a (ns.map V.int)) (q : ∀ (ms : List Int) p H', ms.Perm ns → ms.Pairwise (· ≤ ·) → H p = none → Chg [] H H' → H' p = some (.lst (ms.map V.int)) → Q (.ref p) H') : uSorted K [.ref a] H Q :=
  .inl ⟨a, ns, rfl, h, fun ms p h1 h2 hp => q ms p _ h1 h2 hp (.new hp) upd_same⟩
theorem v_max_i {a : Addr} {ns : List Int} (h : SqL K H a (ns.map V.int)) (hn : 0 < ns.length) (q : ∀ m, m ∈ ns → (∀ y, y ∈ ns → y ≤ m) → Q (.int m) H) : uMax K [.ref a] H Q := ⟨a, ns, rfl, h, hn, q⟩
end
theorem v_raise {W : L2.WX} {D : Ends} {cls : Value} {σ : L2.St} {H : Hp} (h : W cls none σ H) : tRaise W cls D σ H := h
theorem v_isi_i_int {K : PySem.W.Frag} {i : Int} {H : Hp} {Q : VK} (q : Q (.bl true) H) : uIsi K [(.int i), .ty "int"] H Q := v_isi_flat rfl (by simp [sixT]) q
theorem v_isi_i_bool {K : PySem.W.Frag} {i : Int} {H : Hp} {Q : VK} (q : Q (.bl false) H) : uIsi K [(.int i), .ty "bool"] H Q := v_isi_flat rfl (by simp [sixT]) q
theorem v_isi_i_str {K : PySem.W.Frag} {i : Int} {H : Hp} {Q : VK} (q : Q (.bl false) H) : uIsi K [(.int i), .ty "str"] H Q := v_isi_flat rfl (by simp [sixT]) q
theorem v_isi_i_tuple {K : PySem.W.Frag} {i : Int} {H : Hp} {Q : VK} (q : Q (.bl false) H) : uIsi K [(.int i), .ty "tuple"] H Q := v_isi_flat rfl (by simp [sixT]) q
theorem v_isi_i_list {K : PySem.W.Frag} {i : Int} {H : Hp} {Q : VK} (q : Q (.bl false) H) : uIsi K [(.int i), .ty "list"] H Q := v_isi_flat rfl (by simp [sixT]) q
theorem v_isi_i_dict {K : PySem.W.Frag} {i : Int} {H : Hp} {Q : VK} (q : Q (.bl false) H) : uIsi K [(.int i), .ty "dict"] H Q := v_isi_flat rfl (by simp [sixT]) q
theorem v_isi_b_int {K : PySem.W.Frag} {i : Bool} {H : Hp} {Q : VK} (q : Q (.bl true) H) : uIsi K [(.bl i), .ty "int"] H Q := v_isi_flat rfl (by simp [sixT]) q
theorem v_isi_b_bool {K : PySem.W.Frag} {i : Bool} {H : Hp} {Q : VK} (q : Q (.bl true) H) : uIsi K [(.bl i), .ty "bool"] H Q := v_isi_flat rfl (by simp [sixT]) q
theorem v_isi_b_str {K : PySem.W.Frag} {i : Bool} {H : Hp} {Q : VK} (q : Q (.bl false) H) : uIsi K [(.bl i), .ty "str"] H Q := v_isi_flat rfl (by simp [sixT]) q
theorem v_isi_b_tuple {K : PySem.W.Frag} {i : Bool} {H : Hp} {Q : VK} (q : Q (.bl false) H) : uIsi K [(.bl i), .ty "tuple"] H Q := v_isi_flat rfl (by simp [sixT]) q
theorem v_isi_b_list {K : PySem.W.Frag} {i : Bool} {H : Hp} {Q : VK} (q : Q (.bl false) H) : uIsi K [(.bl i), .ty "list"] H Q := v_isi_flat rfl (by simp [sixT]) q
theorem v_isi_b_dict {K : PySem.W.Frag} {i : Bool} {H : Hp} {Q : VK} (q : Q (.bl false) H) : uIsi K [(.bl i), .ty "dict"] H Q := v_isi_flat rfl (by simp [sixT]) q
theorem v_isi_s_int {K : PySem.W.Frag} {i : Str} {H : Hp} {Q : VK} (q : Q (.bl false) H) : uIsi K [(.str i), .ty "int"] H Q := v_isi_flat rfl (by simp [sixT]) q
theorem v_isi_s_bool {K : PySem.W.Frag} {i : Str} {H : Hp} {Q : VK} (q : Q (.bl false) H) : uIsi K [(.str i), .ty "bool"] H Q := v_isi_flat rfl (by simp [sixT]) q
theorem v_isi_s_str {K : PySem.W.Frag} {i : Str} {H : Hp} {Q : VK} (q : Q (.bl true) H) : uIsi K [(.str i), .ty "str"] H Q := v_isi_flat rfl (by simp [sixT]) q
theorem v_isi_s_tuple {K : PySem.W.Frag} {i : Str} {H : Hp} {Q : VK} (q : Q (.bl false) H) : uIsi K [(.str i), .ty "tuple"] H Q := v_isi_flat rfl (by simp [sixT]) q
theorem v_isi_s_list {K : PySem.W.Frag} {i : Str} {H : Hp} {Q : VK} (q : Q (.bl false) H) : uIsi K [(.str i), .ty "list"] H Q := v_isi_flat rfl (by simp [sixT]) q
theorem v_isi_s_dict {K : PySem.W.Frag} {i : Str} {H : Hp} {Q : VK} (q : Q (.bl false) H) : uIsi K [(.str i), .ty "dict"] H Q := v_isi_flat rfl (by simp [sixT]) q
theorem v_isi_n_int {K : PySem.W.Frag}  {H : Hp} {Q : VK} (q : Q (.bl false) H) : uIsi K [.non, .ty "int"] H Q := v_isi_flat rfl (by simp [sixT]) q
theorem v_isi_n_bool {K : PySem.W.Frag}  {H : Hp} {Q : VK} (q : Q (.bl false) H) : uIsi K [.non, .ty "bool"] H Q := v_isi_flat rfl (by simp [sixT]) q
theorem v_isi_n_str {K : PySem.W.Frag}  {H : Hp} {Q : VK} (q : Q (.bl false) H) : uIsi K [.non, .ty "str"] H Q := v_isi_flat rfl (by simp [sixT]) q
theorem v_isi_n_tuple {K : PySem.W.Frag}  {H : Hp} {Q : VK} (q : Q (.bl false) H) : uIsi K [.non, .ty "tuple"] H Q := v_isi_flat rfl (by simp [sixT]) q
theorem v_isi_n_list {K : PySem.W.Frag}  {H : Hp} {Q : VK} (q : Q (.bl false) H) : uIsi K [.non, .ty "list"] H Q := v_isi_flat rfl (by simp [sixT]) q
theorem v_isi_n_dict {K : PySem.W.Frag}  {H : Hp} {Q : VK} (q : Q (.bl false) H) : uIsi K [.non, .ty "dict"] H Q := v_isi_flat rfl (by simp [sixT]) q
theorem v_isi_t_int {K : PySem.W.Frag} {a : Addr} {xs : List V} {H : Hp} {Q : VK} (h : H a = some (.tup xs)) (q : Q (.bl false) H) : uIsi K [.ref a, .ty "int"] H Q := v_isi_tup h (by simp [sixT]) q
theorem v_isi_t_bool {K : PySem.W.Frag} {a : Addr} {xs : List V} {H : Hp} {Q : VK} (h : H a = some (.tup xs)) (q : Q (.bl false) H) : uIsi K [.ref a, .ty "bool"] H Q := v_isi_tup h (by simp [sixT]) q
theorem v_isi_t_str {K : PySem.W.Frag} {a : Addr} {xs : List V} {H : Hp} {Q : VK} (h : H a = some (.tup xs)) (q : Q (.bl false) H) : uIsi K [.ref a, .ty "str"] H Q := v_isi_tup h (by simp [sixT]) q
theorem v_isi_t_tuple {K : PySem.W.Frag} {a : Addr} {xs : List V} {H : Hp} {Q : VK} (h : H a = some (.tup xs)) (q : Q (.bl true) H) : uIsi K [.ref a, .ty "tuple"] H Q := v_isi_tup h (by simp [sixT]) q
theorem v_isi_t_list {K : PySem.W.Frag} {a : Addr} {xs : List V} {H : Hp} {Q : VK} (h : H a = some (.tup xs)) (q : Q (.bl false) H) : uIsi K [.ref a, .ty "list"] H Q := v_isi_tup h (by simp [sixT]) q
theorem v_isi_t_dict {K : PySem.W.Frag} {a : Addr} {xs : List V} {H : Hp} {Q : VK} (h : H a = some (.tup xs)) (q : Q (.bl false) H) : uIsi K [.ref a, .ty "dict"] H Q := v_isi_tup h (by simp [sixT]) q
theorem v_isi_l_int {K : PySem.W.Frag} {a : Addr} {xs : List V} {H : Hp} {Q : VK} (h : H a = some (.lst xs)) (q : Q (.bl false) H) : uIsi K [.ref a, .ty "int"] H Q := v_isi_lst h (by simp [sixT]) q
theorem v_isi_l_bool {K : PySem.W.Frag} {a : Addr} {xs : List V} {H : Hp} {Q : VK} (h : H a = some (.lst xs)) (q : Q (.bl false) H) : uIsi K [.ref a, .ty "bool"] H Q := v_isi_lst h (by simp [sixT]) q
theorem v_isi_l_str {K : PySem.W.Frag} {a : Addr} {xs : List V} {H : Hp} {Q : VK} (h : H a = some (.lst xs)) (q : Q (.bl false) H) : uIsi K [.ref a, .ty "str"] H Q := v_isi_lst h (by simp [sixT]) q
theorem v_isi_l_tuple {K : PySem.W.Frag} {a : Addr} {xs : List V} {H : Hp} {Q : VK} (h : H a = some (.lst xs)) (q : Q (.bl false) H) : uIsi K [.ref a, .ty "tuple"] H Q := v_isi_lst h (by simp [sixT]) q
theorem v_isi_l_list {K : PySem.W.Frag} {a : Addr} {xs : List V} {H : Hp} {Q : VK} (h : H a = some (.lst xs)) (q : Q (.bl true) H) : uIsi K [.ref a, .ty "list"] H Q := v_isi_lst h (by simp [sixT]) q
theorem v_isi_l_dict {K : PySem.W.Frag} {a : Addr} {xs : List V} {H : Hp} {Q : VK} (h : H a = some (.lst xs)) (q : Q (.bl false) H) : uIsi K [.ref a, .ty "dict"] H Q := v_isi_lst h (by simp [sixT]) q
/-! dicts -/
section
variable {H : Hp} {Q : VK} {K : PySem.W.Frag} {a : Addr} {kvs : List (Key × V)}
theorem v_ix_d {y v : V} (g : DGet H a y (some v)) (q : Q v H) : uIx K (.ref a) y H Q := .inr ⟨a, v, rfl, g, q⟩
theorem v_set_d {y v : V} {k : Key} {Q : Hp → Prop} (e : H a = some (.dK kvs)) (hy : y = kV k) (hl : kvs.length < sizeLine) (q : ∀ H', Chg [a] H H' → H' a = some (.dK (putK kvs k v)) → Q H') : uSet (.ref a) y v H Q := by
  subst hy
  exact .inr ⟨a, _, rfl, DPut.k e hl, q _ (Chg.set e (by intro _ z; cases z)) upd_same⟩
theorem v_set_t {y v : V} {kvs : List (List Key × V)} {k : List Key} {b : Addr} {Q : Hp → Prop} (e : H a = some (.dT kvs)) (eb : H b = some (.tup (k.map kV))) (hl : kvs.length < sizeLine) (q : ∀ H', Chg [a] H H' → H' a = some (.dT (putK kvs k v)) → Q H') : uSet (.ref a) (.ref b) v H Q :=
  .inr ⟨a, _, rfl, DPut.t e eb hl, q _ (Chg.set e (by intro _ z; cases z)) upd_same⟩
theorem v_set_l {i : Int} {v : V} {xs : List V} {j : Nat} {Q : Hp → Prop} (e : H a = some (.lst xs)) (hj : ixN xs.length i = some j) (q : ∀ H', Chg [a] H H' → H' a = some (.lst (xs.set j v)) → Q H') : uSet (.ref a) (.int i) v H Q :=
  .inl ⟨a, xs, i, j, rfl, rfl, e, hj, q _ (Chg.set e (by intro _ z; cases z)) upd_same⟩
theorem v_list_d (e : H a = some (.dK kvs)) (q : ∀ p H', H p = none → Chg [] H H' → H' p = some (.lst (kvs.map fun kv => kV kv.1)) → Q (.ref p) H') : uList K [.ref a] H Q :=
  .inr ⟨a, kvs, rfl, e, fun p hp => q p _ hp (.new hp) upd_same⟩
theorem v_list_l {xs : List V} (e : SqL K H a xs) (q : ∀ p H', H p = none → Chg [] H H' → H' p = some (.lst xs) → Q (.ref p) H') : uList K [.ref a] H Q :=
  .inl ⟨a, xs, rfl, .inl e, fun p hp => q p _ hp (.new hp) upd_same⟩
theorem v_list_t {xs : List V} (e : SqT K H a xs) (q : ∀ p H', H p = none → Chg [] H H' → H' p = some (.lst xs) → Q (.ref p) H') : uList K [.ref a] H Q :=
  .inl ⟨a, xs, rfl, .inr e, fun p hp => q p _ hp (.new hp) upd_same⟩
theorem v_tuple_l {xs : List V} (e : SqL K H a xs) (q : ∀ p H', H p = none → Chg [] H H' → H' p = some (.tup xs) → Q (.ref p) H') : uTuple K [.ref a] H Q :=
  ⟨a, xs, rfl, .inl ⟨e, fun p hp => q p _ hp (.new hp) upd_same⟩⟩
theorem v_tuple_t {xs : List V} (e : SqT K H a xs) (q : Q (.ref a) H) : uTuple K [.ref a] H Q := ⟨a, xs, rfl, .inr ⟨e, q⟩⟩
theorem v_sub {to ti : TE} {t : TSet} {v : V} {σ : L2.St} {n : L2.St → Hp → Prop} (h : to σ H fun o H1 => ti σ H1 fun i H2 => t o i v H2 fun H3 => n σ H3) : gSub to ti t v σ H n := h
/-- dict displays -/
def DispE (p : Addr) (ps : List (V × V)) (H2 : Hp) (Q : VK) : Prop := H2 p = some (.dK []) ∧ ∃ kvs : List (Key × V), ps = kvs.map (fun kv => (kV kv.1, kv.2)) ∧ kvs.length ≤ 15 ∧ Q (.ref p) (upd H2 p (.dK (mergeK [] kvs)))
theorem v_disp {trs : List (TE × TE)} {σ : L2.St} (h : ∀ p H', H p = none → Chg [] H H' → H' p = some (.dK []) → tPairs trs σ H' fun ps H2 => DispE p ps H2 Q) : tDisp trs σ H Q := fun p hp => h p _ hp (.new hp) upd_same
theorem v_pcons {tk tv : TE} {trs : List (TE × TE)} {σ : L2.St} {Q : List (V × V) → Hp → Prop} (h : tk σ H fun x H1 => tv σ H1 fun y H2 => tPairs trs σ H2 fun ps H3 => Q ((x, y) :: ps) H3) : tPairs ((tk, tv) :: trs) σ H Q := h
theorem v_pnil {σ : L2.St} {Q : List (V × V) → Hp → Prop} (h : Q [] H) : tPairs [] σ H Q := h
theorem v_dispE {p : Addr} {ps : List (V × V)} (kvs : List (Key × V)) (e : H p = some (.dK [])) (hp : ps = kvs.map (fun kv => (kV kv.1, kv.2))) (hl : kvs.length ≤ 15) (q : ∀ H', Chg [p] H H' → H' p = some (.dK (mergeK [] kvs)) → Q (.ref p) H') : DispE p ps H Q :=
  ⟨e, kvs, hp, hl, q _ (Chg.set e (by intro _ z; cases z)) upd_same⟩
theorem v_dnewK {σ : L2.St} (q : ∀ p H', H p = none → Chg [] H H' → H' p = some (.dK []) → Q (.ref p) H') : tDNewK σ H Q := fun p hp => q p _ hp (.new hp) upd_same
theorem v_dnewT {σ : L2.St} (q : ∀ p H', H p = none → Chg [] H H' → H' p = some (.dT []) → Q (.ref p) H') : tDNewT σ H Q := fun p hp => q p _ hp (.new hp) upd_same
end
/-! lists of ints and texts as data -/
theorem dpAll_ints {K : PySem.W.Frag} {H : Hp} : ∀ ns : List Int, DpAll K H (ns.map V.int) (ns.map PyData.int)
  | [] => .nil
  | n :: r => .cons (.int n) (dpAll_ints r)
theorem eqvAll_ints : ∀ ns ms : List Int, PyData.eqvAll (ns.map PyData.int) (ms.map PyData.int) = decide (ns = ms)
  | [], [] => rfl
  | [], _ :: _ => rfl
  | _ :: _, [] => rfl
  | n :: r, m :: t => by
    show ((n == m) && PyData.eqvAll (r.map PyData.int) (t.map PyData.int)) = _
    rw [eqvAll_ints r t]
    by_cases h : n = m
    · subst h; simp
    · simp [h]
theorem canLayAll_ints : ∀ ns : List Int, PyData.canLayAll0 (ns.map PyData.int) = true
  | [] => rfl
  | n :: r => by
    show (PyData.canLay0 (.int n) && PyData.canLayAll0 (r.map PyData.int)) = true
    rw [canLayAll_ints r]; rfl
theorem depthAll_ints : ∀ ns : List Int, PyData.depthAll (ns.map PyData.int) ≤ 1
  | [] => by decide
  | n :: r => by
    have := depthAll_ints r
    show max (PyData.depth (.int n)) (PyData.depthAll (r.map PyData.int)) ≤ 1
    have e : PyData.depth (.int n) ≤ 1 := Nat.zero_le 1
    omega
theorem shaped_ints (ns : List Int) : SeqAt.shaped (.list (ns.map PyData.int)) = true := by
  unfold SeqAt.shaped
  rw [Bool.and_eq_true, decide_eq_true_eq]
  refine ⟨canLayAll_ints ns, ?_⟩
  show PyData.depthAll (ns.map PyData.int) + 1 ≤ 64
  have := depthAll_ints ns
  omega
section
variable {H : Hp} {Q : VK} {K : PySem.W.Frag} {a b : Addr} {ns ms : List Int}
theorem v_eq_ints (h1 : SqL K H a (ns.map V.int)) (h2 : SqL K H b (ms.map V.int)) (q : Q (.bl (decide (ns = ms))) H) : uEq K (.ref a) (.ref b) H Q :=
  v_eq_d (.lst h1 (dpAll_ints ns)) (.lst h2 (dpAll_ints ms)) (shaped_ints ns) (shaped_ints ms) (by
    show Q (.bl (PyData.eqvAll (ns.map PyData.int) (ms.map PyData.int))) H
    rw [eqvAll_ints]; exact q)
theorem v_ne_ints (h1 : SqL K H a (ns.map V.int)) (h2 : SqL K H b (ms.map V.int)) (q : Q (.bl (!decide (ns = ms))) H) : uNe K (.ref a) (.ref b) H Q :=
  v_ne_d (.lst h1 (dpAll_ints ns)) (.lst h2 (dpAll_ints ms)) (shaped_ints ns) (shaped_ints ms) (by
    show Q (.bl (!PyData.eqvAll (ns.map PyData.int) (ms.map PyData.int))) H
    rw [eqvAll_ints]; exact q)
theorem v_eq_nil2 (h1 : SqL K H a []) (h2 : SqL K H b []) (q : Q (.bl true) H) : uEq K (.ref a) (.ref b) H Q := v_eq_ints (ns := []) (ms := []) h1 h2 q
theorem v_ne_nil2 (h1 : SqL K H a []) (h2 : SqL K H b []) (q : Q (.bl false) H) : uNe K (.ref a) (.ref b) H Q := v_ne_ints (ns := []) (ms := []) h1 h2 q
end
/-! ## 10. loops -/
def ForQ (J : It) (g : TG) (tb : TS) (D : Ends) (σ : L2.St) (H1 : Hp) : Prop := ∃ W : Nat → Nat → L2.St → Hp → Prop, (∃ m, W 0 m σ H1) ∧ ∀ i m σ H, W i m σ H →
  (J.stop i H ∧ D.nx σ H) ∨ (J.go i H ∧ ∃ N : L2.St → Hp → Prop, (∀ σ' H', N σ' H' → ∃ m', m' < m ∧ W (i + 1) m' σ' H') ∧ ∀ x H', J.yld i H x H' → g x σ H' fun σ2 H2 => tb { D with nx := N, ct := N, bk := D.nx } σ2 H2)
section
variable {g : TG} {tb : TS} {n : L2.St → Hp → Prop} {r : VK} {b c : L2.St → Hp → Prop} {σ : L2.St} {H : Hp} {K : PySem.W.Frag} {te : TE} {ta : TA} {Q : VK}
theorem v_for {wi : TI} (h : wi σ H fun J H1 => ForQ J g tb ⟨n, r, b, c⟩ σ H1) : tFor wi g tb ⟨n, r, b, c⟩ σ H := h
def Rng1 (vs : List V) (H : Hp) (R : It → Hp → Prop) : Prop := ∃ j : Int, vs = [.int j] ∧ -(2 ^ 62) ≤ j ∧ j < 2 ^ 62 ∧ R (Itr 0 j.toNat) H
def Rng2 (vs : List V) (H : Hp) (R : It → Hp → Prop) : Prop := ∃ i j : Int, vs = [.int i, .int j] ∧ (-(2 ^ 62) ≤ i ∧ i < 2 ^ 62 ∧ -(2 ^ 62) ≤ j ∧ j < 2 ^ 62) ∧ R (Itr i (j - i).toNat) H
def Rng3 (vs : List V) (H : Hp) (R : It → Hp → Prop) : Prop := ∃ (i j c : Int) (n : Nat), vs = [.int i, .int j, .int c] ∧ RgC i j c n ∧ R (Itc i c n) H
theorem v_rng1 {R : It → Hp → Prop} (h : ta σ H fun vs H1 => Rng1 vs H1 R) : iRng1 ta σ H R := h
theorem v_rng2 {R : It → Hp → Prop} (h : ta σ H fun vs H1 => Rng2 vs H1 R) : iRng2 ta σ H R := h
theorem v_rng3 {R : It → Hp → Prop} (h : ta σ H fun vs H1 => Rng3 vs H1 R) : iRng3 ta σ H R := h
theorem v_rng1' {R : It → Hp → Prop} {j : Int} (h1 : -(2 ^ 62) ≤ j) (h2 : j < 2 ^ 62) (h : R (Itr 0 j.toNat) H) : Rng1 [.int j] H R := ⟨j, rfl, h1, h2, h⟩
theorem v_rng2' {R : It → Hp → Prop} {i j : Int} (h1 : -(2 ^ 62) ≤ i) (h2 : i < 2 ^ 62) (h3 : -(2 ^ 62) ≤ j) (h4 : j < 2 ^ 62) (h : R (Itr i (j - i).toNat) H) : Rng2 [.int i, .int j] H R := ⟨i, j, rfl, ⟨h1, h2, h3, h4⟩, h⟩
theorem v_rng3' {R : It → Hp → Prop} {i j c : Int} {n : Nat} (h1 : RgC i j c n) (h : R (Itc i c n) H) : Rng3 [.int i, .int j, .int c] H R := ⟨i, j, c, n, rfl, h1, h⟩
theorem v_it {R : It → Hp → Prop} (h : te σ H fun x H1 => ItV K x H1 R) : uIt K te σ H R := h
theorem v_it_l {R : It → Hp → Prop} {a : Addr} {xs : List V} (hl : SqL K H a xs) (h : R (Itl K a) H) : ItV K (.ref a) H R := .inl ⟨a, rfl, ⟨xs, hl⟩, h⟩
theorem v_it_t {R : It → Hp → Prop} {a : Addr} {xs : List V} (hl : SqT K H a xs) (h : R (Itt K a) H) : ItV K (.ref a) H R := .inr (.inl ⟨a, rfl, ⟨xs, hl⟩, h⟩)
theorem v_it_s {R : It → Hp → Prop} {z : Str} (h : R (Its z) H) : ItV K (.str z) H R := .inr (.inr ⟨z, rfl, h⟩)
theorem v_for_range {lo : Int} {m : Nat} (Pv : Nat → L2.St → Hp → Prop) (h0 : Pv 0 σ H)
    (hs : ∀ i σ H, i < m → Pv i σ H → g (.int (lo + i)) σ H fun σ2 H2 => tb ⟨Pv (i + 1), r, n, Pv (i + 1)⟩ σ2 H2) (hd : ∀ σ H, Pv m σ H → n σ H) : ForQ (Itr lo m) g tb ⟨n, r, b, c⟩ σ H := for_range Pv h0 hs hd
theorem v_for_rangeC {lo st : Int} {m : Nat} (Pv : Nat → L2.St → Hp → Prop) (h0 : Pv 0 σ H)
    (hs : ∀ i σ H, i < m → Pv i σ H → g (.int (lo + (i : Nat) * st)) σ H fun σ2 H2 => tb ⟨Pv (i + 1), r, n, Pv (i + 1)⟩ σ2 H2) (hd : ∀ σ H, Pv m σ H → n σ H) : ForQ (Itc lo st m) g tb ⟨n, r, b, c⟩ σ H := for_rangeC Pv h0 hs hd
theorem v_for_list {a : Addr} {xs : List V} (Pv : Nat → L2.St → Hp → Prop) (h0 : Pv 0 σ H) (hl : ∀ i σ H, i ≤ xs.length → Pv i σ H → SqL K H a xs)
    (hs : ∀ i x σ H, xs[i]? = some x → Pv i σ H → g x σ H fun σ2 H2 => tb ⟨Pv (i + 1), r, n, Pv (i + 1)⟩ σ2 H2) (hd : ∀ σ H, Pv xs.length σ H → n σ H) : ForQ (Itl K a) g tb ⟨n, r, b, c⟩ σ H := for_list Pv h0 hl hs hd
theorem v_for_tup {a : Addr} {xs : List V} (Pv : Nat → L2.St → Hp → Prop) (h0 : Pv 0 σ H) (hl : ∀ i σ H, i ≤ xs.length → Pv i σ H → SqT K H a xs)
    (hs : ∀ i x σ H, xs[i]? = some x → Pv i σ H → g x σ H fun σ2 H2 => tb ⟨Pv (i + 1), r, n, Pv (i + 1)⟩ σ2 H2) (hd : ∀ σ H, Pv xs.length σ H → n σ H) : ForQ (Itt K a) g tb ⟨n, r, b, c⟩ σ H := for_tup Pv h0 hl hs hd
/-- a while: what holds ahead of each turn, a number that falls -/
def WT (W : Nat → L2.St → Hp → Prop) (m : Nat) (tb : TS) (r : VK) (n : L2.St → Hp → Prop) (σ : L2.St) (H : Hp) : Prop :=
  ∃ N : L2.St → Hp → Prop, (∀ σ' H', N σ' H' → ∃ m', m' < m ∧ W m' σ' H') ∧ tb ⟨N, r, n, N⟩ σ H
theorem v_while {tc : TT} (Pv : L2.St → Hp → Prop) (μ : L2.St → Hp → Nat) (h0 : Pv σ H)
    (hs : ∀ σ H, Pv σ H → tc σ H fun k H1 => if k = true then WT (fun m σ H => Pv σ H ∧ μ σ H = m) (μ σ H) tb r n σ H1 else n σ H1) : tWhile tc tb ⟨n, r, b, c⟩ σ H :=
  ⟨fun m σ H => Pv σ H ∧ μ σ H = m, ⟨_, h0, rfl⟩, fun m σ H ⟨h, e⟩ => by subst e; exact hs σ H h⟩
theorem v_wt {Pv : L2.St → Hp → Prop} {μ : L2.St → Hp → Nat} {m : Nat} (h : tb ⟨fun σ' H' => Pv σ' H' ∧ μ σ' H' < m, r, n, fun σ' H' => Pv σ' H' ∧ μ σ' H' < m⟩ σ H) : WT (fun m σ H => Pv σ H ∧ μ σ H = m) m tb r n σ H :=
  ⟨_, fun σ' H' hh => ⟨_, hh.2, hh.1, rfl⟩, h⟩
/-! comprehensions -/
def LcQ (J : It) (g : TG) (tt : TT) (te : TE) (vs : List Nat) (σ : L2.St) (H1 : Hp) (Q : VK) : Prop := ∀ D, H1 D = none → ∃ W : Nat → Nat → Hp → Prop, (∃ m, W 0 m (upd H1 D (.lst []))) ∧ ∀ i m H, W i m H →
  (J.stop i H ∧ Q (.ref D) H) ∨ (J.go i H ∧ ∃ Nx : Hp → Prop, (∀ H', Nx H' → ∃ m', m' < m ∧ W (i + 1) m' H') ∧ ∀ x H', J.yld i H x H' → g x (wipe σ vs) H' fun σ2 H2 => wipe σ2 vs = wipe σ vs ∧ tt σ2 H2 fun b H3 =>
    if b = true then te σ2 H3 fun y H4 => ∃ acc, H4 D = some (.lst acc) ∧ acc.length < sizeLine ∧ Nx (upd H4 D (.lst (acc ++ [y]))) else Nx H3)
theorem v_lc {wi : TI} {tt : TT} {vs : List Nat} (h : wi σ H fun J H1 => LcQ J g tt te vs σ H1 Q) : tLc wi g tt te vs σ H Q := h
theorem v_yes {Q : Bool → Hp → Prop} (h : Q true H) : tYes σ H Q := h
/-- an element is put to the list at D -/
def LcA (D : Addr) (Nx : Hp → Prop) (y : V) (H4 : Hp) : Prop := ∃ acc, H4 D = some (.lst acc) ∧ acc.length < sizeLine ∧ Nx (upd H4 D (.lst (acc ++ [y])))
/-- what the turns of a comprehension keep: S, what else they change -/
def LcI (S : List Addr) (H0 : Hp) (D : Addr) (Pv : Nat → List V → Hp → Prop) (i : Nat) (H : Hp) : Prop := ∃ acc, Chg S H0 H ∧ H D = some (.lst acc) ∧ Pv i acc H
theorem v_lcA {S : List Addr} {H0 H1 H4 : Hp} {D : Addr} {Pv : Nat → List V → Hp → Prop} {i : Nat} {acc : List V} {y : V} (c0 : Chg S H0 H1) (hD : H1 D = some (.lst acc)) (nD : H0 D = none) (hS : D ∉ S) (c : Chg S H1 H4) (hl : acc.length < sizeLine)
    (h : ∀ H5, Chg [D] H4 H5 → Pv i (acc ++ [y]) H5) : LcA D (LcI S H0 D Pv i) y H4 := by
  have e := c.keep hD hS
  have c5 : Chg [D] H4 (upd H4 D (.lst (acc ++ [y]))) := Chg.set e (by intro _ z; cases z)
  refine ⟨acc, e, hl, acc ++ [y], (c0.trans c).trans' c5 ?_, upd_same, h _ c5⟩
  intro l hm
  rw [List.mem_singleton] at hm
  subst hm
  exact .inr nD
theorem v_lcN {S : List Addr} {H0 H1 H4 : Hp} {D : Addr} {Pv : Nat → List V → Hp → Prop} {i : Nat} {acc : List V} (c0 : Chg S H0 H1) (hD : H1 D = some (.lst acc)) (hS : D ∉ S) (c : Chg S H1 H4) (h : Pv i acc H4) : LcI S H0 D Pv i H4 :=
  ⟨acc, c0.trans c, c.keep hD hS, h⟩
theorem v_lc_list {a : Addr} {xs : List V} {tt : TT} {vs : List Nat} (S : List Addr) (Pv : Nat → List V → Hp → Prop) (hS : ∀ b ∈ S, H b ≠ none) (hl : ∀ H', Chg S H H' → SqL K H' a xs)
    (h0 : ∀ H', Chg [] H H' → Pv 0 [] H')
    (hs : ∀ D i x acc H1, xs[i]? = some x → H D = none → D ∉ S → Chg S H H1 → H1 D = some (.lst acc) → Pv i acc H1 → g x (wipe σ vs) H1 fun σ2 H2 => wipe σ2 vs = wipe σ vs ∧ tt σ2 H2 fun k H3 =>
      if k = true then te σ2 H3 fun y H4 => LcA D (LcI S H D Pv (i + 1)) y H4 else LcI S H D Pv (i + 1) H3)
    (hd : ∀ D acc H', Chg S H H' → H D = none → H' D = some (.lst acc) → Pv xs.length acc H' → Q (.ref D) H') : LcQ (Itl K a) g tt te vs σ H Q := by
  intro D hD
  have dS : D ∉ S := fun m => hS D m hD
  refine lc_list (xs := xs) (LcI S H D Pv) ⟨[], (Chg.new hD).of0, upd_same, h0 _ (.new hD)⟩ (fun i H1 _ ⟨_, c, _⟩ => hl _ c) (fun i x H1 hx ⟨acc, c, e, p⟩ => hs D i x acc H1 hx hD dS c e p) (fun H1 ⟨acc, c, e, p⟩ => hd D acc H1 c hD e p)
theorem v_lc_tup {a : Addr} {xs : List V} {tt : TT} {vs : List Nat} (S : List Addr) (Pv : Nat → List V → Hp → Prop) (hS : ∀ b ∈ S, H b ≠ none) (hl : ∀ H', Chg S H H' → SqT K H' a xs)
    (h0 : ∀ H', Chg [] H H' → Pv 0 [] H')
    (hs : ∀ D i x acc H1, xs[i]? = some x → H D = none → D ∉ S → Chg S H H1 → H1 D = some (.lst acc) → Pv i acc H1 → g x (wipe σ vs) H1 fun σ2 H2 => wipe σ2 vs = wipe σ vs ∧ tt σ2 H2 fun k H3 =>
      if k = true then te σ2 H3 fun y H4 => LcA D (LcI S H D Pv (i + 1)) y H4 else LcI S H D Pv (i + 1) H3)
    (hd : ∀ D acc H', Chg S H H' → H D = none → H' D = some (.lst acc) → Pv xs.length acc H' → Q (.ref D) H') : LcQ (Itt K a) g tt te vs σ H Q := by
  intro D hD
  have dS : D ∉ S := fun m => hS D m hD
  refine lc_tup (xs := xs) (LcI S H D Pv) ⟨[], (Chg.new hD).of0, upd_same, h0 _ (.new hD)⟩ (fun i H1 _ ⟨_, c, _⟩ => hl _ c) (fun i x H1 hx ⟨acc, c, e, p⟩ => hs D i x acc H1 hx hD dS c e p) (fun H1 ⟨acc, c, e, p⟩ => hd D acc H1 c hD e p)
theorem v_lc_range {lo : Int} {m : Nat} {tt : TT} {vs : List Nat} (S : List Addr) (Pv : Nat → List V → Hp → Prop) (hS : ∀ b ∈ S, H b ≠ none)
    (h0 : ∀ H', Chg [] H H' → Pv 0 [] H')
    (hs : ∀ D i acc H1, i < m → H D = none → D ∉ S → Chg S H H1 → H1 D = some (.lst acc) → Pv i acc H1 → g (.int (lo + i)) (wipe σ vs) H1 fun σ2 H2 => wipe σ2 vs = wipe σ vs ∧ tt σ2 H2 fun k H3 =>
      if k = true then te σ2 H3 fun y H4 => LcA D (LcI S H D Pv (i + 1)) y H4 else LcI S H D Pv (i + 1) H3)
    (hd : ∀ D acc H', Chg S H H' → H D = none → H' D = some (.lst acc) → Pv m acc H' → Q (.ref D) H') : LcQ (Itr lo m) g tt te vs σ H Q := by
  intro D hD
  have dS : D ∉ S := fun m => hS D m hD
  refine lc_range (LcI S H D Pv) ⟨[], (Chg.new hD).of0, upd_same, h0 _ (.new hD)⟩ (fun i H1 hi ⟨acc, c, e, p⟩ => hs D i acc H1 hi hD dS c e p) (fun H1 ⟨acc, c, e, p⟩ => hd D acc H1 c hD e p)
end
end RT

namespace Cl
open PySem PySem.Spec PyProof.Rows L2 RT
local macro_rules | `(tactic| walk_at "v0") => `(tactic| first
  | with_reducible refine v_seq ?_
  | with_reducible refine v_next ?_
  | with_reducible refine v_asg ?_
  | with_reducible refine v_name ?_
  | ((with_reducible refine' v_var ?h ?_); case h => exact rfl)
  | with_reducible refine v_c ?_
  | with_reducible refine v_op ?_
  | with_reducible refine v_un ?_
  | with_reducible refine v_cons ?_
  | with_reducible refine v_nil ?_
  | with_reducible refine v_ret ?_
  | with_reducible refine v_drop ?_
  | with_reducible refine v_test ?_
  | with_reducible refine v_isb ?_
  | with_reducible refine v_tru ?_
  | with_reducible refine v_tru_b ?_
  | with_reducible refine v_tru_i ?_
  | with_reducible refine v_tru_n ?_
  | with_reducible refine v_and ?_
  | with_reducible refine v_or ?_
  | with_reducible refine v_not ?_
  | with_reducible refine v_notU ?_
  | with_reducible refine v_andV ?_
  | with_reducible refine v_orV ?_
  | with_reducible refine v_ifE ?_
  | with_reducible refine v_chain ?_
  | with_reducible refine v_callS ?_
  | with_reducible refine v_call ?_
  | with_reducible refine v_cb ?_
  | with_reducible refine v_bm ?_
  | with_reducible refine v_bm0 ?_
  | with_reducible refine v_bms ?_
  | with_reducible refine v_lst ?_
  | with_reducible refine v_tup ?_
  | with_reducible refine v_iteT ?_
  | with_reducible refine v_iteF ?_
  | with_reducible refine v_iteNT ?_
  | with_reducible refine v_iteNF ?_
  | with_reducible refine v_rI0 ?_
  | ((with_reducible refine' v_rI ?h ?_); case h => first | omega | (with_reducible decide) | (refine ⟨?_, ?_⟩ <;> omega) | (unfold CDiv; omega) | (unfold CMul; omega) | (unfold CPow; omega))
  | with_reducible refine v_rU ?_
  | with_reducible refine v_add_ii ?_
  | ((with_reducible refine' v_mul_ii ?h ?_); case h => (unfold CMul; omega))
  | with_reducible refine v_eq_ii ?_
  | with_reducible refine v_ne_ii ?_
  | with_reducible refine v_eq_ss ?_
  | with_reducible refine v_ne_ss ?_
  | with_reducible refine v_lt_ii ?_
  | with_reducible refine v_eq_bb ?_
  | with_reducible refine v_ne_bb ?_
  | with_reducible refine v_bits ?_
  | with_reducible refine v_pcons ?_
  | with_reducible refine v_pnil ?_
  | with_reducible refine v_ipI ?_
  | ((with_reducible refine' v_aug ?h ?_); case h => exact rfl)
  | with_reducible refine v_raise ?_
  | with_reducible refine v_isi_i_int ?_
  | with_reducible refine v_isi_i_bool ?_
  | with_reducible refine v_isi_i_str ?_
  | with_reducible refine v_isi_i_tuple ?_
  | with_reducible refine v_isi_i_list ?_
  | with_reducible refine v_isi_i_dict ?_
  | with_reducible refine v_isi_b_int ?_
  | with_reducible refine v_isi_b_bool ?_
  | with_reducible refine v_isi_b_str ?_
  | with_reducible refine v_isi_b_tuple ?_
  | with_reducible refine v_isi_b_list ?_
  | with_reducible refine v_isi_b_dict ?_
  | with_reducible refine v_isi_s_int ?_
  | with_reducible refine v_isi_s_bool ?_
  | with_reducible refine v_isi_s_str ?_
  | with_reducible refine v_isi_s_tuple ?_
  | with_reducible refine v_isi_s_list ?_
  | with_reducible refine v_isi_s_dict ?_
  | with_reducible refine v_isi_n_int ?_
  | with_reducible refine v_isi_n_bool ?_
  | with_reducible refine v_isi_n_str ?_
  | with_reducible refine v_isi_n_tuple ?_
  | with_reducible refine v_isi_n_list ?_
  | with_reducible refine v_isi_n_dict ?_
  | ((with_reducible refine' v_isi_flat ?h ?g ?_); (case h => first | assumption | exact rfl); (case g => simp [sixT]))
  | with_reducible refine v_sl ?_
  | with_reducible refine v_nopart ?_
  | with_reducible refine v_part ?_
  | with_reducible refine v_isi ?_
  | with_reducible refine v_max2 ?_
  | with_reducible refine v_min2 ?_
  | with_reducible refine v_int_i ?_
  | with_reducible refine v_int_b ?_
  | with_reducible refine v_retN ?_
  | with_reducible refine v_for ?_
  | with_reducible refine v_rng1 ?_
  | with_reducible refine v_rng2 ?_
  | with_reducible refine v_rng3 ?_
  | with_reducible refine v_it ?_
  | with_reducible refine v_lc ?_
  | with_reducible refine v_sub ?_
  | with_reducible refine v_yes ?_
  | with_reducible refine v_break ?_
  | with_reducible refine v_cont ?_)
local macro_rules | `(tactic| walk_at "v") => `(tactic| first | walk_at "v0" | with_reducible refine v_ifs ?_)
local macro_rules | `(tactic| walk_at "vp") => `(tactic| repeat (walk_at "v0"))
local macro_rules | `(tactic| walk_at "vs") => `(tactic| repeat (walk_at "v"))
local macro_rules | `(tactic| walk_at "vi") => `(tactic| first
  | with_reducible refine v_iteD (fun _ => ?_) (fun _ => ?_)
  | with_reducible refine v_iteN (fun _ => ?_) (fun _ => ?_)
  | with_reducible refine v_iteNB (fun _ => ?_) (fun _ => ?_)
  | with_reducible refine v_iteB (fun _ => ?_) (fun _ => ?_))
local macro_rules | `(tactic| walk_at "vx") => `(tactic| repeat' (first | walk_at "v" | walk_at "vi"))

def topS (i : Nat) : Stmt := PySem.Challenge.pw_retrace_k33_places_kept.main.body.getD i (.Pass ⟨0, 0, 0, 0⟩)
structure Txt (K : PySem.W.Frag) (mg : Str → Option Value) : Type where
  n_isinstance : mg "isinstance" = none
  n_int : mg "int" = none
  n_bool : mg "bool" = none
  c_GREATEST_STEP : ConAt mg "GREATEST_STEP" (.int 1000000)
  n_range : mg "range" = none
  n_max : mg "max" = none
  n_sorted : mg "sorted" = none
  n_len : mg "len" = none
  n_ValueError : mg "ValueError" = none
  n_min : mg "min" = none
  n_list : mg "list" = none
  x_NoStep : ExcAt K mg "NoStep"
  x_NoProgram : ExcAt K mg "NoProgram"
  x_NoRow : ExcAt K mg "NoRow"
  x_TooLong : ExcAt K mg "TooLong"
  x_NoWorld : ExcAt K mg "NoWorld"
  x_NoText : ExcAt K mg "NoText"
  x_NoCell : ExcAt K mg "NoCell"
  x_NoDoor : ExcAt K mg "NoDoor"
  x_NoWord : ExcAt K mg "NoWord"
  x_RunError : ExcAt K mg "RunError"
  kit_NoStep__NoProgram : PySem.W.kitOne K (.ref x_NoStep.C) (.ref x_NoProgram.C) = some false
  kit_NoStep__NoRow : PySem.W.kitOne K (.ref x_NoStep.C) (.ref x_NoRow.C) = some false
  kit_NoStep__TooLong : PySem.W.kitOne K (.ref x_NoStep.C) (.ref x_TooLong.C) = some false
  kit_NoStep__NoWorld : PySem.W.kitOne K (.ref x_NoStep.C) (.ref x_NoWorld.C) = some false
  kit_NoStep__NoText : PySem.W.kitOne K (.ref x_NoStep.C) (.ref x_NoText.C) = some false
  kit_NoStep__NoStep : PySem.W.kitOne K (.ref x_NoStep.C) (.ref x_NoStep.C) = some true
  kit_NoStep__NoCell : PySem.W.kitOne K (.ref x_NoStep.C) (.ref x_NoCell.C) = some false
  kit_NoStep__NoDoor : PySem.W.kitOne K (.ref x_NoStep.C) (.ref x_NoDoor.C) = some false
  kit_NoStep__NoWord : PySem.W.kitOne K (.ref x_NoStep.C) (.ref x_NoWord.C) = some false
  kit_NoStep_T_ValueError : PySem.W.kitOne K (.ref x_NoStep.C) (.type "ValueError") = some true
  exm_NoStep__RunError : PySem.W.exmOne K (.ref x_NoStep.C) (.ref x_RunError.C) = some true
/-! ### 1. lowest bits, places (plain) -/
theorem pow_pos2 (k : Nat) : (0 : Int) < 2 ^ k := by
  induction k with
  | zero => decide
  | succ k ih => rw [Int.pow_succ]; omega
theorem pow2_succ (k : Nat) : (2 : Int) ^ (k + 1) = 2 * 2 ^ k := by rw [Int.pow_succ, Int.mul_comm]
def low (i : Int) : Int := Builtin.bitAnd i (-i)
theorem low_of (k : Nat) (a : Int) : low (2 ^ k * (2 * a + 1)) = 2 ^ k := PySem.W.kbt_low k a
theorem low_ex {i : Int} (h : 0 < i) : ∃ (k : Nat) (a : Int), 0 ≤ a ∧ i = 2 ^ k * (2 * a + 1) ∧ low i = 2 ^ k := by
  have key : ∀ (m : Nat) (i : Int), i.toNat ≤ m → 0 < i → ∃ (k : Nat) (a : Int), 0 ≤ a ∧ i = 2 ^ k * (2 * a + 1) := by
    intro m
    induction m with
    | zero => intro i h1 h2; omega
    | succ m ih =>
      intro i h1 h2
      by_cases ho : i % 2 = 1
      · exact ⟨0, i / 2, by omega, by omega⟩
      · obtain ⟨k, a, ha, e⟩ := ih (i / 2) (by omega) (by omega)
        refine ⟨k + 1, a, ha, ?_⟩
        have : i = 2 * (i / 2) := by omega
        rw [this, e, Int.pow_succ]
        generalize (2 : Int) ^ k = x
        rw [Int.mul_comm x 2, Int.mul_assoc]
  obtain ⟨k, a, ha, e⟩ := key i.toNat i (Nat.le_refl _) h
  exact ⟨k, a, ha, e, by rw [e]; exact low_of k a⟩
theorem low_zero : low 0 = 0 := by decide
theorem low_pos {i : Int} (h : 0 < i) : 1 ≤ low i := by
  obtain ⟨k, a, _, _, e⟩ := low_ex h
  have := pow_pos2 k
  omega
theorem low_le {i : Int} (h : 0 < i) : low i ≤ i := by
  obtain ⟨k, a, ha, e1, e2⟩ := low_ex h
  have hp := pow_pos2 k
  rw [e2, e1]
  have h1 : (2 : Int) ^ k * 1 ≤ 2 ^ k * (2 * a + 1) := Int.mul_le_mul_of_nonneg_left (by omega) (by omega)
  omega
theorem low_mul (k : Nat) {j : Int} (h : 0 < j) : low (2 ^ k * j) = 2 ^ k * low j := by
  obtain ⟨m, a, ha, e1, e2⟩ := low_ex h
  rw [e2, e1, ← Int.mul_assoc, ← Int.pow_add, low_of]
theorem low_odd {j : Int} (h : 0 < j) (ho : low j = 1) : j % 2 = 1 := by
  obtain ⟨m, a, ha, e1, e2⟩ := low_ex h
  rw [ho] at e2
  cases m with
  | zero => rw [e1]; omega
  | succ m =>
    have := pow_pos2 m
    rw [Int.pow_succ] at e2
    omega
theorem odd_low {j : Int} (ho : j % 2 = 1) : low j = 1 := by
  have e : j = 2 ^ 0 * (2 * (j / 2) + 1) := by omega
  rw [e]; exact low_of 0 _
theorem pow_lt {m k : Nat} (h : (2 : Int) ^ m < 2 ^ (k + 1)) : (2 : Int) ^ m < 2 ^ k ∨ (2 : Int) ^ m = 2 ^ k := by
  rcases Nat.lt_trichotomy m k with h1 | h1 | h1
  · left
    obtain ⟨d, rfl⟩ := Nat.exists_eq_add_of_lt h1
    rw [show m + d + 1 = m + (d + 1) by omega, Int.pow_add, Int.pow_succ]
    have a1 := pow_pos2 m
    have a2 := pow_pos2 d
    have : (2 : Int) ^ m * 1 < 2 ^ m * (2 ^ d * 2) := Int.mul_lt_mul_of_pos_left (by omega) a1
    omega
  · right; rw [h1]
  · exfalso
    obtain ⟨d, rfl⟩ := Nat.exists_eq_add_of_lt h1
    rw [show k + d + 1 = (k + 1) + d by omega, Int.pow_add] at h
    have a1 := pow_pos2 (k + 1)
    have a2 := pow_pos2 d
    have : (2 : Int) ^ (k + 1) * 1 ≤ 2 ^ (k + 1) * 2 ^ d := Int.mul_le_mul_of_nonneg_left (by omega) (by omega)
    omega
/-- in the list ahead of the turn of bit 2 ^ k -/
def InK (n : Int) (k : Nat) (p : Int) : Prop := p = 0 ∨ (0 < p ∧ p ≤ n ∧ low p < 2 ^ k ∧ n - p ≤ 4 * low p)
def Fst (n : Int) (k : Nat) (F : List Int) : Prop := F.Nodup ∧ (∀ p, p ∈ F ↔ InK n k p) ∧ F.length ≤ 3 * k + 1
/-- .. behind i places of that turn; lasts at q * 2 ^ k -/
def Fin (n : Int) (k : Nat) (q : Int) (i : Nat) (F : List Int) : Prop := F.Nodup ∧
  (∀ p, p ∈ F ↔ InK n k p ∨ (∃ j : Int, 0 ≤ j ∧ j < i ∧ p = (q - j) * 2 ^ k ∧ low p = 2 ^ k ∧ n - p ≤ 4 * 2 ^ k)) ∧ F.length ≤ 3 * k + 1 + (i + (q % 2).toNat) / 2
theorem fst0 (n : Int) (hn : 0 ≤ n) : Fst n 0 [0] := by
  refine ⟨by simp, fun p => ?_, by simp⟩
  constructor
  · intro h; left; simpa using h
  · rintro (h | ⟨h1, h2, h3, h4⟩)
    · simp [h]
    · have := low_pos h1; simp at h3; omega
theorem fin0 {n : Int} {k : Nat} {q : Int} {F : List Int} (h : Fst n k F) : Fin n k q 0 F := by
  refine ⟨h.1, fun p => ?_, by have := h.2.2; omega⟩
  rw [h.2.1 p]
  constructor
  · exact .inl
  · rintro (h | ⟨j, h1, h2, _⟩)
    · exact h
    · omega
theorem mulq (q j b : Int) : (q - j) * b = q * b - j * b := Int.sub_mul q j b
theorem fin_no {n : Int} {k : Nat} {q : Int} {i : Nat} {F : List Int} (h : Fin n k q i F) (hno : ¬ (low ((q - i) * 2 ^ k) = 2 ^ k ∧ n - (q - i) * 2 ^ k ≤ 4 * 2 ^ k)) : Fin n k q (i + 1) F := by
  refine ⟨h.1, fun p => ?_, by have := h.2.2; omega⟩
  rw [h.2.1 p]
  constructor
  · rintro (h | ⟨j, h1, h2, h3⟩)
    · exact .inl h
    · exact .inr ⟨j, h1, by omega, h3⟩
  · rintro (h | ⟨j, h1, h2, h3, h4, h5⟩)
    · exact .inl h
    · by_cases e : j = i
      · subst e; subst h3; exact absurd ⟨h4, h5⟩ hno
      · exact .inr ⟨j, h1, by omega, h3, h4, h5⟩
theorem fin_yes {n : Int} {k : Nat} {q : Int} {i : Nat} {F : List Int} (h : Fin n k q i F) (hq : (i : Int) < q) (h1 : low ((q - i) * 2 ^ k) = 2 ^ k) (h2 : n - (q - i) * 2 ^ k ≤ 4 * 2 ^ k) : Fin n k q (i + 1) (F ++ [(q - i) * 2 ^ k]) := by
  have hp := pow_pos2 k
  have hodd : (q - i) % 2 = 1 := by
    apply low_odd (by omega)
    rw [Int.mul_comm, low_mul k (by omega)] at h1
    have a := Int.mul_le_mul_of_nonneg_left (low_pos (show 0 < q - i by omega)) (Int.le_of_lt hp)
    rcases Int.lt_trichotomy (low (q - i)) 1 with c | c | c
    · have := low_pos (show 0 < q - i by omega); omega
    · exact c
    · have b : (2 : Int) ^ k * 2 ≤ 2 ^ k * low (q - i) := Int.mul_le_mul_of_nonneg_left (by omega) (Int.le_of_lt hp)
      omega
  refine ⟨?_, fun p => ?_, ?_⟩
  · rw [List.nodup_append]
    refine ⟨h.1, by simp, ?_⟩
    intro a ha b hb e
    rw [List.mem_singleton] at hb
    subst hb; subst e
    rcases (h.2.1 _).mp ha with (hz | ⟨z1, z2, z3, z4⟩) | ⟨j, hj1, hj2, hj3, _⟩
    · rw [hz, low_zero] at h1; omega
    · omega
    · have : q - i = q - j := Int.eq_of_mul_eq_mul_right (by omega) hj3
      omega
  · rw [List.mem_append, h.2.1 p, List.mem_singleton]
    constructor
    · rintro ((h | ⟨j, hj1, hj2, hj3⟩) | e)
      · exact .inl h
      · exact .inr ⟨j, hj1, by omega, hj3⟩
      · subst e; exact .inr ⟨i, by omega, by omega, rfl, h1, h2⟩
    · rintro (h | ⟨j, hj1, hj2, hj3, hj4, hj5⟩)
      · exact .inl (.inl h)
      · by_cases e : j = i
        · subst e; exact .inr hj3
        · exact .inl (.inr ⟨j, hj1, by omega, hj3, hj4, hj5⟩)
  · have := h.2.2
    rw [List.length_append]
    simp only [List.length_cons, List.length_nil]
    have e2 : (q % 2).toNat + i % 2 = 1 := by omega
    omega
theorem fin_end {n : Int} {k : Nat} {F : List Int} (hn : 0 ≤ n) (h : Fin n k (n / 2 ^ k) (min 5 (n / 2 ^ k)).toNat F) : Fst n (k + 1) F := by
  have hp := pow_pos2 k
  have hd := Int.emod_add_mul_ediv n (2 ^ k)
  have hm := Int.emod_nonneg n (show (2 : Int) ^ k ≠ 0 by omega)
  have hm2 := Int.emod_lt_of_pos n hp
  have hq : 0 ≤ n / 2 ^ k := Int.ediv_nonneg hn (Int.le_of_lt hp)
  generalize n / 2 ^ k = q at *
  have hc := Int.mul_comm (2 ^ k) q
  refine ⟨h.1, fun p => ?_, ?_⟩
  · rw [h.2.1 p]
    constructor
    · rintro ((h | ⟨h1, h2, h3, h4⟩) | ⟨j, hj1, hj2, hj3, hj4, hj5⟩)
      · exact .inl h
      · exact .inr ⟨h1, h2, by rw [Int.pow_succ]; omega, h4⟩
      · have hjq : j < q := by omega
        have hpos : 0 < p := by rw [hj3]; exact Int.mul_pos (by omega) hp
        have hle : j * 2 ^ k ≥ 0 := Int.mul_nonneg hj1 (by omega)
        have := mulq q j (2 ^ k)
        exact .inr ⟨hpos, by omega, by rw [hj4, Int.pow_succ]; omega, by omega⟩
    · rintro (h | ⟨h1, h2, h3, h4⟩)
      · exact .inl (.inl h)
      · obtain ⟨m, a, ha, e1, e2⟩ := low_ex h1
        rw [e2] at h3
        rcases pow_lt h3 with z | z
        · exact .inl (.inr ⟨h1, h2, by omega, h4⟩)
        · right
          rw [z] at e1 e2
          have hle : 2 ^ k * (2 * a + 1) ≤ n := by omega
          have hqa : 2 * a + 1 ≤ q := by
            rcases Int.lt_or_le q (2 * a + 1) with c | c
            · have : 2 ^ k * (q + 1) ≤ 2 ^ k * (2 * a + 1) := Int.mul_le_mul_of_nonneg_left (by omega) (by omega)
              rw [Int.mul_add] at this
              omega
            · exact c
          refine ⟨q - (2 * a + 1), by omega, ?_, ?_, e2, by omega⟩
          · rw [e2] at h4
            rcases Int.lt_or_le (q - (2 * a + 1)) 5 with c | c
            · omega
            · exfalso
              have : 2 ^ k * 5 ≤ 2 ^ k * (q - (2 * a + 1)) := Int.mul_le_mul_of_nonneg_left c (by omega)
              rw [Int.mul_sub] at this
              omega
          · rw [e1, Int.mul_comm]; congr 1; omega
  · have := h.2.2
    omega
theorem rgC_of {q b : Int} (hb : 0 < b) (hq : 0 ≤ q) (hb2 : b ≤ 1000000) (hl : q * b ≤ 1000000) : RgC (q * b) (if q * b - 5 * b > 0 then q * b - 5 * b else 0) (-b) (min 5 q).toNat := by
  have h0 : 0 ≤ q * b := Int.mul_nonneg hq (by omega)
  have hs : (if q * b - 5 * b > 0 then q * b - 5 * b else 0) = (q - min 5 q) * b := by
    by_cases c : 5 ≤ q
    · rw [show min 5 q = 5 by omega, Int.sub_mul]
      have : 5 * b ≤ q * b := Int.mul_le_mul_of_nonneg_right c (by omega)
      split <;> omega
    · rw [show min 5 q = q by omega, Int.sub_self, Int.zero_mul]
      have : q * b ≤ 5 * b := Int.mul_le_mul_of_nonneg_right (by omega) (by omega)
      split <;> omega
  rw [hs]
  have hm : 0 ≤ min 5 q := by omega
  have he : q * b - (q - min 5 q) * b = min 5 q * b := by rw [Int.sub_mul]; omega
  have hr : 0 ≤ (q - min 5 q) * b := Int.mul_nonneg (by omega) (by omega)
  have hz : Builtin.Range.rangeSize (q * b) ((q - min 5 q) * b) (-b) = min 5 q := by
    unfold Builtin.Range.rangeSize
    rw [if_neg (by omega)]
    by_cases z : min 5 q = 0
    · rw [z, if_neg (by rw [Int.sub_zero]; omega)]
    · have hpos : b ≤ min 5 q * b := by
        have : 1 * b ≤ min 5 q * b := Int.mul_le_mul_of_nonneg_right (by omega) (by omega)
        omega
      rw [if_pos (by omega), he, Int.neg_neg]
      have : (min 5 q * b - 1) / b = min 5 q - 1 := by
        rw [show min 5 q * b - 1 = (b - 1) + (min 5 q - 1) * b by rw [Int.sub_mul]; omega, Int.add_mul_ediv_right _ _ (by omega), Int.ediv_eq_zero_of_lt (by omega) (by omega)]
        omega
      rw [this]; omega
  have hle : (q - min 5 q) * b ≤ q * b := Int.mul_le_mul_of_nonneg_right (by omega) (by omega)
  refine ⟨by omega, by omega, ?_, by rw [hz]; omega⟩
  unfold Builtin.Range.small
  rw [hz, if_neg (by omega)]
  simp only [Builtin.Range.rangeFitsLong, Bool.and_eq_true, Bool.or_eq_true, decide_eq_true_eq, beq_iff_eq]
  refine ⟨⟨⟨⟨?_, ?_⟩, ?_⟩, ?_⟩, .inr ?_⟩ <;> omega
def okStep (x : V) (l m : Int) : Bool := match x with
  | .int i => decide (l ≤ i) && decide (i ≤ m)
  | _ => false
def keepB (n p : Int) : Bool := decide (p = 0) || decide (n - p ≤ 4 * low p)
structure Kept (n : Int) (L : List Int) : Prop where
  len : ∀ b : Nat, n < 2 ^ b → L.length ≤ 3 * b + 1
  asc : L.Pairwise (· < ·)
  mem : ∀ p, p ∈ L ↔ (0 ≤ p ∧ p ≤ n ∧ keepB n p = true)
theorem keepB_iff {n p : Int} : keepB n p = true ↔ (p = 0 ∨ n - p ≤ 4 * low p) := by
  simp [keepB]
/-- the loop's end: all places -/
theorem fst_all {n : Int} {k : Nat} {F : List Int} (hn : 0 ≤ n) (hk : n < 2 ^ k) (h : Fst n k F) : ∀ p, p ∈ F ↔ (0 ≤ p ∧ p ≤ n ∧ keepB n p = true) := by
  intro p
  rw [h.2.1 p, keepB_iff]
  constructor
  · rintro (e | ⟨h1, h2, h3, h4⟩)
    · subst e; exact ⟨by omega, hn, .inl rfl⟩
    · exact ⟨by omega, h2, .inr h4⟩
  · rintro ⟨h1, h2, e | h4⟩
    · exact .inl e
    · by_cases e : p = 0
      · exact .inl e
      · have := low_le (show 0 < p by omega)
        exact .inr ⟨by omega, h2, by omega, h4⟩
theorem asc_of {L : List Int} (h1 : L.Pairwise (· ≤ ·)) (h2 : L.Nodup) : L.Pairwise (· < ·) := by
  induction L with
  | nil => exact .nil
  | cons a L ih =>
    rw [List.pairwise_cons] at h1 ⊢
    rw [List.nodup_cons] at h2
    refine ⟨fun b hb => ?_, ih h1.2 h2.2⟩
    have := h1.1 b hb
    rcases Int.lt_or_eq_of_le this with c | c
    · exact c
    · subst c; exact absurd hb h2.1
theorem pow_mono {a b : Nat} (h : a ≤ b) : (2 : Int) ^ a ≤ 2 ^ b := by
  obtain ⟨d, rfl⟩ := Nat.exists_eq_add_of_le h
  rw [Int.pow_add]
  have h1 := pow_pos2 a
  have h2 := pow_pos2 d
  have : (2 : Int) ^ a * 1 ≤ 2 ^ a * 2 ^ d := Int.mul_le_mul_of_nonneg_left (by omega) (by omega)
  omega
theorem kept_of {n : Int} {k : Nat} {F L : List Int} (hn : 0 ≤ n) (hk : n < 2 ^ k) (hb : (2 : Int) ^ k ≤ 2 * n + 1) (h : Fst n k F) (hp : L.Perm F) (ho : L.Pairwise (· ≤ ·)) : Kept n L :=
  ⟨fun b hlt => by
    have h1 := hp.length_eq
    have h2 := h.2.2
    have h3 : k ≤ b := by
      rcases Nat.lt_or_ge b k with c | c
      · have := pow_mono (show b + 1 ≤ k from c)
        rw [pow2_succ] at this
        omega
      · exact c
    omega, asc_of ho (hp.nodup_iff.mpr h.1), fun p => by rw [hp.mem_iff, fst_all hn hk h p]⟩
theorem low_ge {k : Nat} {j : Int} (h : 0 < j) : (2 : Int) ^ k ≤ low (2 ^ k * j) := by
  rw [low_mul k h]
  have h1 := low_pos h
  have h2 := pow_pos2 k
  have : (2 : Int) ^ k * 1 ≤ 2 ^ k * low j := Int.mul_le_mul_of_nonneg_left (by omega) (by omega)
  omega
theorem pow_at {d : Int} (h : 0 < d) : ∃ k : Nat, (2 : Int) ^ k ≤ d ∧ d < 2 ^ (k + 1) := by
  have key : ∀ (m : Nat) (d : Int), d.toNat ≤ m → 0 < d → ∃ k : Nat, (2 : Int) ^ k ≤ d ∧ d < 2 ^ (k + 1) := by
    intro m
    induction m with
    | zero => intro d h1 h2; omega
    | succ m ih =>
      intro d h1 h2
      by_cases c : d = 1
      · exact ⟨0, by subst c; decide, by subst c; decide⟩
      · obtain ⟨k, a, b⟩ := ih (d / 2) (by omega) (by omega)
        refine ⟨k + 1, ?_, ?_⟩
        · rw [pow2_succ]; omega
        · rw [pow2_succ]; omega
  exact key d.toNat d (Nat.le_refl _) h
theorem near_enough {n s' m : Int} {L : List Int} (n0 : 0 ≤ n) (s0 : 0 ≤ s') (s1 : s' ≤ n) (hL : Kept n L) (hmax : ∀ p ∈ L, p ≤ s' → p ≤ m) (hm : m ∈ L) (hms : m ≤ s') : s' - m ≤ n - s' := by
  by_cases c : n = s'
  · subst c
    have : n ∈ L := (hL.mem n).mpr ⟨s0, by omega, keepB_iff.mpr (.inr (by
      by_cases z : n = 0
      · subst z; decide
      · have := low_pos (show 0 < n by omega); omega))⟩
    have := hmax n this (by omega)
    omega
  · obtain ⟨k, h1, h2⟩ := pow_at (show 0 < n - s' by omega)
    have hp := pow_pos2 k
    rw [pow2_succ] at h2
    have e1 := Int.emod_add_mul_ediv s' (2 ^ k)
    have e2 := Int.emod_nonneg s' (show (2 : Int) ^ k ≠ 0 by omega)
    have e3 := Int.emod_lt_of_pos s' hp
    have e4 : 0 ≤ s' / 2 ^ k := Int.ediv_nonneg s0 (by omega)
    have hin : 2 ^ k * (s' / 2 ^ k) ∈ L := by
      refine (hL.mem _).mpr ⟨Int.mul_nonneg (by omega) e4, by omega, keepB_iff.mpr ?_⟩
      by_cases z : s' / 2 ^ k = 0
      · left; rw [z, Int.mul_zero]
      · right
        have := low_ge (k := k) (show 0 < s' / 2 ^ k by omega)
        omega
    have := hmax _ hin (by omega)
    omega
theorem cut_mem {xs : List V} {lo hi : Option Int} {x : V} (h : x ∈ cutV xs lo hi) : x ∈ xs := List.mem_of_mem_drop (List.mem_of_mem_take h)
theorem line9 {n : Nat} (h : n ≤ 10000) : n ≤ sizeLine := by rw [sizeLine_eq]; omega
theorem line9' {n : Nat} (h : n ≤ 10000) : n < sizeLine := by rw [sizeLine_eq]; omega
theorem Kept.zero {n : Int} {L : List Int} (h : Kept n L) (hn : 0 ≤ n) : 0 ∈ L := (h.mem 0).mpr ⟨by omega, hn, keepB_iff.mpr (.inl rfl)⟩
theorem okStep_no {i l m : Int} (h : okStep (.int i) l m = false) : ¬ (l ≤ i ∧ i ≤ m) := by
  simp only [okStep, Bool.and_eq_false_iff, decide_eq_false_iff_not] at h
  omega
theorem okStep_yes {i l m : Int} (h : okStep (.int i) l m = true) : l ≤ i ∧ i ≤ m := by
  simpa only [okStep, Bool.and_eq_true, decide_eq_true_eq] using h
/-! ### 2. promises -/
def sp_need (NS : Addr) : Sp := fun vs H Q E => ∃ x l m, vs = [x, .int l, .int m] ∧ flatV x = true ∧ (okStep x l m = true → Q .non H) ∧ (okStep x l m = false → E (.ref NS) none H)
def sp_low (NS : Addr) : Sp := fun vs H Q E => ∃ x, vs = [x] ∧ flatV x = true ∧ (okStep x 1 1000000 = true → ∀ i, x = .int i → Q (.int (low i)) H) ∧ (okStep x 1 1000000 = false → E (.ref NS) none H)
def sp_keeps (NS : Addr) : Sp := fun vs H Q E => ∃ x y, vs = [x, y] ∧ flatV x = true ∧ flatV y = true ∧
  (∀ n p, x = .int n → y = .int p → 0 ≤ n → n ≤ 1000000 → 0 ≤ p → p ≤ n → Q (.bl (keepB n p)) H) ∧
  (okStep x 0 1000000 = false → E (.ref NS) none H) ∧ (∀ n, x = .int n → okStep x 0 1000000 = true → okStep y 0 n = false → E (.ref NS) none H)
def sp_kept (NS : Addr) : Sp := fun vs H Q E => ∃ x, vs = [x] ∧ flatV x = true ∧
  (∀ n, x = .int n → 0 ≤ n → n ≤ 1000000 → ∀ a L H', Chg [] H H' → H a = none → H' a = some (.lst (L.map V.int)) → Kept n L → Q (.ref a) H') ∧
  (okStep x 0 1000000 = false → E (.ref NS) none H)
def sp_cell (K : PySem.W.Frag) : Sp := fun vs H Q _ => ∃ a ns k, vs = [.ref a, .int k] ∧ SqL K H a (List.map V.int ns) ∧ ns.length ≤ 63 ∧ 0 ≤ k ∧ ∀ i, Q (.int i) H
def sp_bit : Sp := fun vs H Q _ => ∃ i, vs = [.int i] ∧ 1 ≤ i ∧ i ≤ 1000000 ∧ Q (.int (low i)) H
def sp_lkeeps : Sp := fun vs H Q _ => ∃ n p, vs = [.int n, .int p] ∧ 0 ≤ p ∧ p ≤ 1000000 ∧ Q (.bl (keepB n p)) H
def sp_alone (NS : Addr) : SpP := fun a cls d vs H Q _ => vs = [.ref a] ∧ cls = .ref NS ∧ d = none ∧ ∀ H', Chg [] H H' → Q (.bl true) H'
/-! ### 3. the law's own places -/
theorem asc_ext : ∀ {L M : List Int}, L.Pairwise (· < ·) → M.Pairwise (· < ·) → (∀ p, p ∈ L ↔ p ∈ M) → L = M
  | [], [], _, _, _ => rfl
  | [], b :: M, _, _, h => absurd ((h b).mpr (by simp)) (by simp)
  | a :: L, [], _, _, h => absurd ((h a).mp (by simp)) (by simp)
  | a :: L, b :: M, h1, h2, h => by
    rw [List.pairwise_cons] at h1 h2
    have e : a = b := by
      rcases List.mem_cons.mp ((h a).mp (by simp)) with c | c
      · exact c
      · rcases List.mem_cons.mp ((h b).mpr (by simp)) with d | d
        · exact d.symm
        · have := h1.1 b d
          have := h2.1 a c
          omega
    subst e
    congr 1
    refine asc_ext h1.2 h2.2 fun p => ?_
    constructor
    · intro hp
      rcases List.mem_cons.mp ((h p).mp (by simp [hp])) with c | c
      · have := h1.1 p hp; omega
      · exact c
    · intro hp
      rcases List.mem_cons.mp ((h p).mpr (by simp [hp])) with c | c
      · have := h2.1 p hp; omega
      · exact c
def Due (n : Int) (k : Nat) (F : List Int) : Prop := F.Nodup ∧ (∀ p ∈ F, 0 ≤ p ∧ p ≤ n ∧ keepB n p = true) ∧ (∀ p, InK n k p → p ∈ F) ∧ F.length ≤ 7 * k + 1
def DueI (n : Int) (k : Nat) (q : Int) (i : Nat) (F : List Int) : Prop := F.Nodup ∧ (∀ p ∈ F, 0 ≤ p ∧ p ≤ n ∧ keepB n p = true) ∧
  (∀ p, InK n k p ∨ (∃ j : Int, 0 ≤ j ∧ j < i ∧ p = (q - j) * 2 ^ k ∧ 0 < p ∧ keepB n p = true) → p ∈ F) ∧ F.length ≤ 7 * k + 1 + i
theorem due0 (n : Int) (hn : 0 ≤ n) : Due n 0 [0] := by
  refine ⟨by simp, fun p hp => ?_, fun p => ?_, by simp⟩
  · rw [List.mem_singleton] at hp; subst hp; exact ⟨by omega, hn, keepB_iff.mpr (.inl rfl)⟩
  · rintro (h | ⟨h1, h2, h3, h4⟩)
    · simp [h]
    · have := low_pos h1; simp at h3; omega
theorem dueI0 {n : Int} {k : Nat} {q : Int} {F : List Int} (h : Due n k F) : DueI n k q 0 F :=
  ⟨h.1, h.2.1, fun p hp => by
    rcases hp with z | ⟨j, h1, h2, _⟩
    · exact h.2.2.1 p z
    · omega, by have := h.2.2.2; omega⟩
theorem dueI_no {n : Int} {k : Nat} {q : Int} {i : Nat} {F : List Int} (h : DueI n k q i F) (hno : ¬ (0 < (q - i) * 2 ^ k ∧ keepB n ((q - i) * 2 ^ k) = true)) : DueI n k q (i + 1) F := by
  refine ⟨h.1, h.2.1, fun p hp => ?_, by have := h.2.2.2; omega⟩
  rcases hp with z | ⟨j, h1, h2, h3, h4⟩
  · exact h.2.2.1 p (.inl z)
  · by_cases e : j = i
    · subst e; subst h3; exact absurd h4 hno
    · exact h.2.2.1 p (.inr ⟨j, h1, by omega, h3, h4⟩)
theorem dueI_old {n : Int} {k : Nat} {q : Int} {i : Nat} {F : List Int} (h : DueI n k q i F) (hm : (q - i) * 2 ^ k ∈ F) : DueI n k q (i + 1) F := by
  refine ⟨h.1, h.2.1, fun p hp => ?_, by have := h.2.2.2; omega⟩
  rcases hp with z | ⟨j, h1, h2, h3, h4⟩
  · exact h.2.2.1 p (.inl z)
  · by_cases e : j = i
    · subst e; subst h3; exact hm
    · exact h.2.2.1 p (.inr ⟨j, h1, by omega, h3, h4⟩)
theorem dueI_new {n : Int} {k : Nat} {q : Int} {i : Nat} {F : List Int} (h : DueI n k q i F) (hm : (q - i) * 2 ^ k ∉ F) (h1 : 0 < (q - i) * 2 ^ k) (h2 : (q - i) * 2 ^ k ≤ n) (h3 : keepB n ((q - i) * 2 ^ k) = true) : DueI n k q (i + 1) (F ++ [(q - i) * 2 ^ k]) := by
  refine ⟨?_, fun p hp => ?_, fun p hp => ?_, ?_⟩
  · rw [List.nodup_append]
    refine ⟨h.1, by simp, ?_⟩
    intro a ha b hb e
    rw [List.mem_singleton] at hb
    subst hb; subst e
    exact hm ha
  · rcases List.mem_append.mp hp with z | z
    · exact h.2.1 p z
    · rw [List.mem_singleton] at z; subst z; exact ⟨by omega, h2, h3⟩
  · rcases hp with z | ⟨j, h1, h2, h3, h4⟩
    · exact List.mem_append.mpr (.inl (h.2.2.1 p (.inl z)))
    · by_cases e : j = i
      · subst e; subst h3; simp
      · exact List.mem_append.mpr (.inl (h.2.2.1 p (.inr ⟨j, h1, by omega, h3, h4⟩)))
  · have := h.2.2.2
    rw [List.length_append]
    simp only [List.length_cons, List.length_nil]
    omega
theorem due_end {n : Int} {k : Nat} {F : List Int} (hn : 0 ≤ n) (h : DueI n k (n / 2 ^ k) 7 F) : Due n (k + 1) F := by
  have hp := pow_pos2 k
  have hd := Int.emod_add_mul_ediv n (2 ^ k)
  have hm := Int.emod_nonneg n (show (2 : Int) ^ k ≠ 0 by omega)
  have hm2 := Int.emod_lt_of_pos n hp
  have hq : 0 ≤ n / 2 ^ k := Int.ediv_nonneg hn (Int.le_of_lt hp)
  generalize n / 2 ^ k = q at *
  have hc := Int.mul_comm (2 ^ k) q
  refine ⟨h.1, h.2.1, fun p hI => ?_, by have := h.2.2.2; omega⟩
  rcases hI with z | ⟨h1, h2, h3, h4⟩
  · exact h.2.2.1 p (.inl (.inl z))
  · by_cases e : p = 0
    · exact h.2.2.1 p (.inl (.inl e))
    · obtain ⟨m, a, ha, e1, e2⟩ := low_ex h1
      rw [e2] at h3
      rcases pow_lt h3 with z | z
      · exact h.2.2.1 p (.inl (.inr ⟨h1, h2, by omega, h4⟩))
      · refine h.2.2.1 p (.inr ?_)
        have hk : keepB n p = true := keepB_iff.mpr (.inr h4)
        rw [z] at e1 e2
        have hle : 2 ^ k * (2 * a + 1) ≤ n := by omega
        have hqa : 2 * a + 1 ≤ q := by
          rcases Int.lt_or_le q (2 * a + 1) with c | c
          · have : 2 ^ k * (q + 1) ≤ 2 ^ k * (2 * a + 1) := Int.mul_le_mul_of_nonneg_left (by omega) (by omega)
            rw [Int.mul_add] at this
            omega
          · exact c
        refine ⟨q - (2 * a + 1), by omega, ?_, ?_, h1, hk⟩
        · rw [e2] at h4
          rcases Int.lt_or_le (q - (2 * a + 1)) 5 with c | c
          · omega
          · exfalso
            have : 2 ^ k * 5 ≤ 2 ^ k * (q - (2 * a + 1)) := Int.mul_le_mul_of_nonneg_left c (by omega)
            rw [Int.mul_sub] at this
            omega
        · rw [e1, Int.mul_comm]; congr 1; omega
theorem due_all {n : Int} {k : Nat} {F : List Int} (hn : 0 ≤ n) (hk : n < 2 ^ k) (h : Due n k F) : ∀ p, p ∈ F ↔ (0 ≤ p ∧ p ≤ n ∧ keepB n p = true) := by
  intro p
  refine ⟨h.2.1 p, fun ⟨h1, h2, h3⟩ => h.2.2.1 p ?_⟩
  rcases keepB_iff.mp h3 with e | h4
  · exact .inl e
  · by_cases e : p = 0
    · exact .inl e
    · have := low_le (show 0 < p by omega)
      exact .inr ⟨by omega, h2, by omega, h4⟩
theorem bits_lt {n : Int} (h : 0 ≤ n) : n < 2 ^ (Builtin.Int.intBits n) := by
  unfold Builtin.Int.intBits
  split
  · rename_i e
    simp only [beq_iff_eq] at e
    subst e; decide
  · have h1 := Nat.lt_log2_self (n := n.natAbs)
    have h2 : (n.natAbs : Int) < ((2 ^ (n.natAbs.log2 + 1) : Nat) : Int) := by exact_mod_cast h1
    rw [Int.natCast_pow] at h2
    have : (n.natAbs : Int) = n := Int.natAbs_of_nonneg h
    rw [this] at h2
    exact h2
theorem keys_old {kvs : List (Key × V)} {F : List Int} {p : Int} {v : V} (h : kvs.map (·.1) = F.map Sum.inl) (hm : p ∈ F) : (putK kvs (Sum.inl p) v).map (·.1) = F.map Sum.inl := by
  unfold putK
  have hm2 : (Sum.inl p : Key) ∈ kvs.map (·.1) := by rw [h]; exact List.mem_map_of_mem hm
  rw [if_pos]
  · rw [← h, List.map_map]
    apply List.map_congr_left
    intro kv _
    show (if kv.1 = Sum.inl p then (kv.1, v) else kv).1 = kv.1
    split <;> rfl
  · rw [List.any_eq_true]
    obtain ⟨kv, h1, h2⟩ := List.mem_map.mp hm2
    exact ⟨kv, h1, by simpa using h2⟩
theorem keys_new {kvs : List (Key × V)} {F : List Int} {p : Int} {v : V} (h : kvs.map (·.1) = F.map Sum.inl) (hm : p ∉ F) : (putK kvs (Sum.inl p) v).map (·.1) = (F ++ [p]).map Sum.inl := by
  unfold putK
  rw [if_neg]
  · rw [List.map_append, h, List.map_append]; rfl
  · rw [List.any_eq_true]
    rintro ⟨kv, h1, h2⟩
    have h3 : kv.1 = Sum.inl p := by simpa using h2
    have h4 : kv.1 ∈ kvs.map (·.1) := List.mem_map_of_mem h1
    rw [h, h3] at h4
    obtain ⟨q, h5, h6⟩ := List.mem_map.mp h4
    cases h6
    exact hm h5
theorem keys_list {kvs : List (Key × V)} {F : List Int} (h : kvs.map (·.1) = F.map Sum.inl) : (kvs.map fun kv => kV kv.1) = F.map V.int := by
  have : (kvs.map fun kv => kV kv.1) = (kvs.map (·.1)).map kV := by rw [List.map_map]; rfl
  rw [this, h, List.map_map]
  rfl
theorem range_asc (f : Int → Bool) (m : Nat) : ((((List.range m).map (Int.ofNat ·)).filter f)).Pairwise (· < ·) := by
  refine List.Pairwise.filter _ ?_
  rw [List.pairwise_map]
  refine List.Pairwise.imp ?_ List.pairwise_lt_range
  intro a b h
  show (a : Int) < b
  omega
theorem range_mem (f : Int → Bool) (m : Nat) (p : Int) : p ∈ (((List.range m).map (Int.ofNat ·)).filter f) ↔ (0 ≤ p ∧ p < m ∧ f p = true) := by
  rw [List.mem_filter, List.mem_map]
  constructor
  · rintro ⟨⟨a, h1, rfl⟩, h2⟩
    rw [List.mem_range] at h1
    exact ⟨by show (0 : Int) ≤ (a : Int); omega, by show (a : Int) < m; omega, h2⟩
  · rintro ⟨h1, h2, h3⟩
    exact ⟨⟨p.toNat, List.mem_range.mpr (by omega), by show (p.toNat : Int) = p; omega⟩, h3⟩
/-! ### 4. promises -/
def sp_ref : Sp := fun vs H Q _ => ∃ w x y, vs = [.int w, x, y] ∧ flatV x = true ∧ flatV y = true ∧
  ((w = 0 ∧ okStep y 1 1000000 = false) ∨ (w = 1 ∧ (okStep x 0 1000000 = false ∨ ∃ n, x = .int n ∧ okStep x 0 1000000 = true ∧ okStep y 0 n = false)) ∨ (w = 2 ∧ okStep x 0 1000000 = false)) ∧ ∀ H', Chg [] H H' → Q (.bl true) H'
def sp_far : Sp := fun vs H Q _ => ∃ i, vs = [.int i] ∧ ∀ n H', 0 ≤ n → n ≤ 1000000 → Chg [] H H' → Q (.int n) H'
def sp_due : Sp := fun vs H Q _ => ∃ n, vs = [.int n] ∧ 0 ≤ n ∧ n ≤ 1000000 ∧ ∀ (a : Addr) (L : List Int) H', Chg [] H H' → H a = none → H' a = some (.lst (L.map V.int)) → L.Pairwise (· < ·) → (∀ p, p ∈ L ↔ (0 ≤ p ∧ p ≤ n ∧ keepB n p = true)) → Q (.ref a) H'
def sp_listed : Sp := fun vs H Q _ => ∃ n, vs = [.int n] ∧ 0 ≤ n ∧ n ≤ 1000000 ∧ ∀ H', Chg [] H H' → Q (.bl true) H'
def sp_law (K : PySem.W.Frag) : Sp := fun vs H Q _ => ∃ a ns, vs = [.ref a] ∧ SqL K H a (List.map V.int ns) ∧ ns.length ≤ 63 ∧ ∀ H', Q (.bl true) H'
theorem sp_law_start {K : PySem.W.Frag} {H : Hp} {a : Addr} {ns : List Int} {E : XK} (hl : ns.length ≤ 63) (_ : Only H) (hS : SqL K H a (ns.map V.int)) : sp_law K [.ref a] H (fun v _ => v = .bl true) E :=
  ⟨a, ns, rfl, hS, hl, fun _ => rfl⟩
section
variable {P : Program} {w : World} {K : PySem.W.Frag} {mg : Str → Option Value} {base : Heap}
abbrev s_need_step : Stmt := topS 13
theorem sc_need_step : FnScope ["step", "least", "most"] ["step", "least", "most"] (defScope s_need_step) := ⟨rfl, rfl, rfl, by decide +kernel, rfl, by decide +kernel, by decide +kernel⟩
theorem ok_need_step (T : Txt K mg) (D : DefAt K mg "need_step" s_need_step) : Own P w K mg base "need_step" 1 ["step", "least", "most"] (sp_need T.x_NoStep.C) := by
  refine own_of D (fun _ _ _ _ _ _ us hl => match us, hl with | [_, _, _], _ => rfl) (fnW_of (N := ["step", "least", "most"]) sc_need_step (fun vs H Q E h => ?_) (fun f cdv A outer s H vs Q E hr h => ?_))
  · obtain ⟨x, l, m, rfl, _⟩ := h; rfl
  · have nd := sc_need_step.nd
    have hu := L2H.roomH_of hr
    have TK : L2N.Takes (cxOf (L2N.CX P w) P w K mg base ["step", "least", "most"] "need_step" (defScope s_need_step) f cdv A outer s H E) (fun cls d _ H => E cls d H) := L2N.takes_of rfl rfl rfl rfl
    refine ⟨_, (pss_one (ps_if (PW.pt (pw_or (pt_not (pt_u (K := K) (pe_callB (call_uisi (K := K)) (by rfl) T.n_isinstance (by decide +kernel) (pa_cons (pv 0) (pa_cons (pe_bltn (v := .ty "int") (by rfl) T.n_int (by decide +kernel) rfl) pa_nil))))) (pw_or (pt_u (K := K) (pe_callB (call_uisi (K := K)) (by rfl) T.n_isinstance (by decide +kernel) (pa_cons (pv 0) (pa_cons (pe_bltn (v := .ty "bool") (by rfl) T.n_bool (by decide +kernel) rfl) pa_nil)))) (pw_or (pt_cmpR op_ult (pv 0) (pv 1) (nomark _)) (pw_or1 (pt_cmpR op_gt (pv 0) (pv 2) (nomark _)))))))
      (pss_one (ps_raiseU T.x_NoStep TK)) pss_nil)), ?_⟩
    clear nd
    obtain ⟨x, l, m, rfl, fx, k1, k2⟩ := h
    cases x with
    | int i =>
      walk_at "vx"
      all_goals first
        | (refine k2 ?_; simp only [okStep, Bool.and_eq_false_iff, decide_eq_false_iff_not]; omega)
        | (refine k1 ?_; simp only [okStep, Bool.and_eq_true, decide_eq_true_eq]; omega)
    | bl b => walk_at "vx"; exact k2 rfl
    | non => walk_at "vx"; exact k2 rfl
    | str z => walk_at "vx"; exact k2 rfl
    | byt z => cases fx
    | flt z => cases fx
    | ref z => cases fx
    | ty z => cases fx
abbrev s_lowest_bit : Stmt := topS 14
theorem sc_lowest_bit : FnScope ["step"] ["step"] (defScope s_lowest_bit) := ⟨rfl, rfl, rfl, by decide +kernel, rfl, by decide +kernel, by decide +kernel⟩
theorem ok_lowest_bit (T : Txt K mg) (D : DefAt K mg "lowest_bit" s_lowest_bit) (O_need_step : Own P w K mg base "need_step" 1 ["step", "least", "most"] (sp_need T.x_NoStep.C)) : Own P w K mg base "lowest_bit" 2 ["step"] (sp_low T.x_NoStep.C) := by
  refine own_of D (fun _ _ _ _ _ _ us hl => match us, hl with | [_], _ => rfl) (fnW_of (N := ["step"]) sc_lowest_bit (fun vs H Q E h => ?_) (fun f cdv A outer s H vs Q E hr h => ?_))
  · obtain ⟨x, rfl, _⟩ := h; rfl
  · have nd := sc_lowest_bit.nd
    have hu := L2H.roomH_of hr
    have TK : L2N.Takes (cxOf (L2N.CX P w) P w K mg base ["step"] "lowest_bit" (defScope s_lowest_bit) f cdv A outer s H E) (fun cls d _ H => E cls d H) := L2N.takes_of rfl rfl rfl rfl
    refine ⟨_, (pss_cons (ps_expr (pe_own O_need_step (by decide) hr rfl (fun σ => L2N.passAt TK σ) (pa_cons (pv 0) (pa_cons pe_int (pa_cons (pe_con_ T.c_GREATEST_STEP rfl) pa_nil)))))
      (pss_one (ps_ret (pe_op op_and (pv 0) (pe_un un_neg (pv 0)))))), ?_⟩
    clear nd
    obtain ⟨x, rfl, fx, k1, k2⟩ := h
    walk_at "vs"
    refine ⟨x, 1, 1000000, rfl, fx, fun ok => ?_, fun no => ?_⟩
    · cases x with
      | int i => walk_at "vs"; exact k1 ok i rfl
      | _ => cases ok
    · exact k2 no
abbrev s_keeps : Stmt := topS 15
theorem sc_keeps : FnScope ["farthest", "place"] ["farthest", "place"] (defScope s_keeps) := ⟨rfl, rfl, rfl, by decide +kernel, rfl, by decide +kernel, by decide +kernel⟩
theorem ok_keeps (T : Txt K mg) (D : DefAt K mg "keeps" s_keeps) (O_need_step : Own P w K mg base "need_step" 1 ["step", "least", "most"] (sp_need T.x_NoStep.C)) (O_lowest_bit : Own P w K mg base "lowest_bit" 2 ["step"] (sp_low T.x_NoStep.C)) : Own P w K mg base "keeps" 3 ["farthest", "place"] (sp_keeps T.x_NoStep.C) := by
  refine own_of D (fun _ _ _ _ _ _ us hl => match us, hl with | [_, _], _ => rfl) (fnW_of (N := ["farthest", "place"]) sc_keeps (fun vs H Q E h => ?_) (fun f cdv A outer s H vs Q E hr h => ?_))
  · obtain ⟨x, y, rfl, _⟩ := h; rfl
  · have nd := sc_keeps.nd
    have hu := L2H.roomH_of hr
    have TK : L2N.Takes (cxOf (L2N.CX P w) P w K mg base ["farthest", "place"] "keeps" (defScope s_keeps) f cdv A outer s H E) (fun cls d _ H => E cls d H) := L2N.takes_of rfl rfl rfl rfl
    refine ⟨_, (pss_cons (ps_expr (pe_own O_need_step (by decide) hr rfl (fun σ => L2N.passAt TK σ) (pa_cons (pv 0) (pa_cons pe_int (pa_cons (pe_con_ T.c_GREATEST_STEP rfl) pa_nil)))))
      (pss_cons (ps_expr (pe_own O_need_step (by decide) hr rfl (fun σ => L2N.passAt TK σ) (pa_cons (pv 1) (pa_cons pe_int (pa_cons (pv 0) pa_nil)))))
      (pss_one (ps_ret (pe_or (pe_cmpR (op_ueq (K := K) hu) (pv 1) pe_int (nomark _)) (pe_one (pe_cmpR op_le (pe_op op_sub (pv 0) (pv 1)) (pe_op op_umul pe_int (pe_own O_lowest_bit (by decide) hr rfl (fun σ => L2N.passAt TK σ) (pa_cons (pv 1) pa_nil))) (nomark _)))))))), ?_⟩
    clear nd
    obtain ⟨x, y, rfl, fx, fy, k1, k2, k3⟩ := h
    walk_at "vs"
    refine ⟨x, 0, 1000000, rfl, fx, fun ok => ?_, fun no => k2 no⟩
    cases x with
    | int n =>
      walk_at "vs"
      refine ⟨y, 0, n, rfl, fy, fun ok2 => ?_, fun no => k3 n rfl ok no⟩
      cases y with
      | int p =>
        simp only [okStep, Bool.and_eq_true, decide_eq_true_eq] at ok ok2
        have k := k1 n p rfl rfl ok.1 ok.2 ok2.1 ok2.2
        walk_at "vs"
        refine v_iteD (fun h0 => ?_) (fun h0 => ?_)
        · rw [keepB, decide_eq_true h0, Bool.true_or] at k
          exact k
        · walk_at "vs"
          refine ⟨.int p, rfl, rfl, fun _ i hi => ?_, fun no => ?_⟩
          · cases hi
            walk_at "vs"
            rw [keepB, decide_eq_false h0, Bool.false_or] at k
            exact k
          · simp only [okStep, Bool.and_eq_false_iff, decide_eq_false_iff_not] at no
            omega
      | _ => cases ok2
    | _ => cases ok
abbrev s_kept_places : Stmt := topS 16
theorem sc_kept_places : FnScope ["farthest", "found", "bit", "last", "place"] ["farthest"] (defScope s_kept_places) := ⟨rfl, rfl, rfl, by decide +kernel, rfl, by decide +kernel, by decide +kernel⟩
theorem ok_kept_places (T : Txt K mg) (D : DefAt K mg "kept_places" s_kept_places) (O_need_step : Own P w K mg base "need_step" 1 ["step", "least", "most"] (sp_need T.x_NoStep.C)) : Own P w K mg base "kept_places" 2 ["farthest"] (sp_kept T.x_NoStep.C) := by
  refine own_of D (fun _ _ _ _ _ _ us hl => match us, hl with | [_], _ => rfl) (fnW_of (N := ["farthest", "found", "bit", "last", "place"]) sc_kept_places (fun vs H Q E h => ?_) (fun f cdv A outer s H vs Q E hr h => ?_))
  · obtain ⟨x, rfl, _⟩ := h; rfl
  · have nd := sc_kept_places.nd
    have hu := L2H.roomH_of hr
    have TK : L2N.Takes (cxOf (L2N.CX P w) P w K mg base ["farthest", "found", "bit", "last", "place"] "kept_places" (defScope s_kept_places) f cdv A outer s H E) (fun cls d _ H => E cls d H) := L2N.takes_of rfl rfl rfl rfl
    refine ⟨_, (pss_cons (ps_expr (pe_own O_need_step (by decide) hr rfl (fun σ => L2N.passAt TK σ) (pa_cons (pv 0) (pa_cons pe_int (pa_cons (pe_con_ T.c_GREATEST_STEP rfl) pa_nil)))))
      (pss_cons (ps_set (i := 1) nd rfl (by first | exact Or.inl rfl | exact Or.inr rfl) (pe_lst (pa_cons pe_int pa_nil)))
      (pss_cons (ps_set (i := 2) nd rfl (by first | exact Or.inl rfl | exact Or.inr rfl) pe_int)
      (pss_cons (ps_while (passes_of rfl) (pt_cmpR op_le (pv 2) (pv 0) (nomark _))
      (pss_cons (ps_set (i := 3) nd rfl (by first | exact Or.inl rfl | exact Or.inr rfl) (pe_op op_umul (pe_op op_fdiv (pv 0) (pv 2)) (pv 2)))
      (pss_cons (ps_for (passes_of rfl) rfl (pi_range3 rfl T.n_range (pa_cons (pv 3) (pa_cons (pe_callB (call_umax2 rfl) (by rfl) T.n_max (by decide +kernel) (pa_cons pe_int (pa_cons (pe_op op_sub (pv 3) (pe_op op_umul pe_int (pv 2))) pa_nil))) (pa_cons (pe_un un_neg (pv 2)) pa_nil)))) (pg_name (i := 4) nd rfl (by first | exact Or.inl rfl | exact Or.inr rfl))
      (pss_one (ps_if (PW.pt (pw_and (pt_cmpR (op_ueq (K := K) hu) (pe_op op_and (pv 4) (pe_un un_neg (pv 4))) (pv 2) (nomark _)) (pw_and1 (pt_cmpR op_le (pe_op op_sub (pv 0) (pv 4)) (pe_op op_umul pe_int (pv 2)) (nomark _)))))
      (pss_one (ps_expr (pe_bm PySem.F.plainAttrs_list PySem.F.slot_list_append PySem.F.type_list_append mt_append (pv 1) (pa_cons (pv 4) pa_nil)))) pss_nil)))
      (pss_one (ps_set (i := 2) nd rfl (by first | exact Or.inl rfl | exact Or.inr rfl) (pe_op op_umul pe_int (pv 2)))))))
      (pss_one (ps_ret (pe_callB (cr_usorted (K := K)) (by rfl) T.n_sorted (by decide +kernel) (pa_cons (pv 1) pa_nil)))))))), ?_⟩
    clear nd
    obtain ⟨x, rfl, fx, k1, k2⟩ := h
    walk_at "vs"
    refine ⟨x, 0, 1000000, rfl, fx, fun ok => ?_, fun no => k2 no⟩
    cases x with
    | int n =>
      obtain ⟨n0, n1⟩ := okStep_yes ok
      walk_at "vs"
      refine v_newL (line9 (by decide)) fun a H1 na c1 ha => ?_
      walk_at "vs"
      refine v_while (fun σ H' => ∃ (k : Nat) (F : List Int) (v1 v2 : Option V), σ = [some (.int n), some (.ref a), some (.int (2 ^ k)), v1, v2] ∧ Chg [a] H1 H' ∧ H' a = some (.lst (F.map V.int)) ∧ Fst n k F ∧ (2 : Int) ^ k ≤ 2 * n + 1)
        (fun σ _ => match σ with | [_, _, some (.int b), _, _] => (2 * n + 2 - b).toNat | _ => 0) ⟨0, [0], none, none, rfl, .refl, ha, fst0 n n0, by omega⟩ ?_
      rintro σ H2 ⟨k, F, v1, v2, rfl, c2, ha2, hF, hk⟩
      have hp := pow_pos2 k
      have hq0 : 0 ≤ n / 2 ^ k := Int.ediv_nonneg n0 (by omega)
      walk_at "vs"
      refine v_iteD (fun hb => ?_) (fun hb => ?_)
      · refine v_wt ?_
        walk_at "vs"
        have hl : n / 2 ^ k * 2 ^ k ≤ n := by
          have := Int.emod_add_mul_ediv n (2 ^ k)
          have := Int.emod_nonneg n (show (2 : Int) ^ k ≠ 0 by omega)
          have := Int.mul_comm (2 ^ k) (n / 2 ^ k)
          omega
        refine v_rng3' (rgC_of hp hq0 (by omega) (by omega)) ?_
        have hl0 : 0 ≤ n / 2 ^ k * 2 ^ k := Int.mul_nonneg hq0 (by omega)
        refine v_for_rangeC (fun i σ H' => ∃ (F : List Int) (v2 : Option V), σ = [some (.int n), some (.ref a), some (.int (2 ^ k)), some (.int (n / 2 ^ k * 2 ^ k)), v2] ∧ Chg [a] H1 H' ∧ H' a = some (.lst (F.map V.int)) ∧ Fin n k (n / 2 ^ k) i F)
          ⟨F, v2, rfl, c2, ha2, fin0 hF⟩ ?_ ?_
        · rintro i σ H3 hi ⟨F, v2, rfl, c3, ha3, hG⟩
          have e : n / 2 ^ k * 2 ^ k + (i : Int) * -(2 ^ k) = (n / 2 ^ k - i) * 2 ^ k := by rw [Int.sub_mul, Int.mul_neg]; omega
          have hlen := hG.2.2
          have k60 : k ≤ 63 := by
            rcases Nat.lt_or_ge k 64 with c | c
            · omega
            · exfalso
              obtain ⟨d, rfl⟩ := Nat.exists_eq_add_of_le c
              rw [Int.pow_add] at hb
              have := pow_pos2 d
              have : (2 : Int) ^ 64 * 1 ≤ 2 ^ 64 * 2 ^ d := Int.mul_le_mul_of_nonneg_left (by omega) (by omega)
              omega
          rw [e]
          walk_at "vs"
          refine v_iteD (fun h1 => ?_) (fun h1 => ?_)
          · walk_at "vs"
            refine v_iteD (fun h2 => ?_) (fun h2 => ?_)
            · walk_at "vs"
              refine v_bml (SqL.of ha3) ?_
              walk_at "vs"
              refine v_append ha3 (by rw [List.length_map]; exact line9' (by omega)) fun H4 c4 ha4 => ?_
              refine ⟨F ++ [_], _, rfl, c3.trans c4, by rw [ha4, List.map_append]; rfl, fin_yes hG (by omega) h1 (by omega)⟩
            · walk_at "vs"
              exact ⟨F, _, rfl, c3, ha3, fin_no hG (fun z => h2 (by omega))⟩
          · walk_at "vs"
            exact ⟨F, _, rfl, c3, ha3, fin_no hG (fun z => h1 z.1)⟩
        · rintro σ H3 ⟨F, v2, rfl, c3, ha3, hG⟩
          walk_at "vs"
          refine ⟨⟨k + 1, F, _, v2, by rw [pow2_succ]; rfl, c3, ha3, fin_end n0 hG, by rw [Int.pow_succ]; omega⟩, ?_⟩
          show (2 * n + 2 - 2 * 2 ^ k).toNat < (2 * n + 2 - 2 ^ k).toNat
          omega
      · walk_at "vs"
        refine v_sorted_i (SqL.of ha2) fun ms p H3 hpm hs hpn c3 hp3 => ?_
        have c : Chg [] H H3 := (c1.trans' c2 (fun l hm => .inr (by rw [List.mem_singleton] at hm; subst hm; exact na))).trans c3
        exact k1 n rfl n0 n1 p ms H3 c (c1.dom (c2.dom hpn)) hp3 (kept_of n0 (by omega) hk hF hpm hs)
    | _ => cases ok
abbrev s__law_cell_at : Stmt := topS 18
theorem sc__law_cell_at : FnScope ["_law_script", "_law_k"] ["_law_script", "_law_k"] (defScope s__law_cell_at) := ⟨rfl, rfl, rfl, by decide +kernel, rfl, by decide +kernel, by decide +kernel⟩
theorem ok__law_cell_at (T : Txt K mg) (D : DefAt K mg "_law_cell_at" s__law_cell_at) : Own P w K mg base "_law_cell_at" 1 ["_law_script", "_law_k"] (sp_cell K) := by
  refine own_of D (fun _ _ _ _ _ _ us hl => match us, hl with | [_, _], _ => rfl) (fnW_of (N := ["_law_script", "_law_k"]) sc__law_cell_at (fun vs H Q E h => ?_) (fun f cdv A outer s H vs Q E hr h => ?_))
  · obtain ⟨a, ns, k, rfl, _⟩ := h; rfl
  · have nd := sc__law_cell_at.nd
    have hu := L2H.roomH_of hr
    refine ⟨_, (pss_cons (ps_if (pt_cmpR op_ult (pv 1) (pe_callB (call_ulen (K := K)) (by rfl) T.n_len (by decide +kernel) (pa_cons (pv 0) pa_nil)) (nomark _))
      (pss_one (ps_ret (pe_ix (ix_u (K := K) hu) (pv 0) (pv 1) (fun _ _ => rfl)))) pss_nil)
      (pss_one (ps_ret pe_int))), ?_⟩
    clear nd
    obtain ⟨a, ns, k, rfl, hS, hl, k0, q⟩ := h
    walk_at "vs"
    refine v_len_l hS ?_
    walk_at "vs"
    refine v_iteD (fun hk => ?_) (fun hk => ?_)
    · walk_at "vs"
      refine v_ix_lany hS k0 hk fun v hv => ?_
      rw [List.getElem?_map] at hv
      cases e : ns[k.toNat]? with
      | none => rw [e] at hv; cases hv
      | some z => rw [e] at hv; cases hv; exact q z
    · walk_at "vs"
      exact q 0
abbrev s__law_bit : Stmt := topS 19
theorem sc__law_bit : FnScope ["_law_step", "_law_found"] ["_law_step"] (defScope s__law_bit) := ⟨rfl, rfl, rfl, by decide +kernel, rfl, by decide +kernel, by decide +kernel⟩
theorem ok__law_bit (T : Txt K mg) (D : DefAt K mg "_law_bit" s__law_bit) : Own P w K mg base "_law_bit" 1 ["_law_step"] (sp_bit) := by
  refine own_of D (fun _ _ _ _ _ _ us hl => match us, hl with | [_], _ => rfl) (fnW_of (N := ["_law_step", "_law_found"]) sc__law_bit (fun vs H Q E h => ?_) (fun f cdv A outer s H vs Q E hr h => ?_))
  · obtain ⟨i, rfl, _⟩ := h; rfl
  · have nd := sc__law_bit.nd
    have hu := L2H.roomH_of hr
    refine ⟨_, (pss_cons (ps_set (i := 1) nd rfl (by first | exact Or.inl rfl | exact Or.inr rfl) pe_int)
      (pss_cons (ps_while (passes_of rfl) (pt_cmpR (op_ueq (K := K) hu) (pe_op op_mod (pv 0) (pe_op op_umul pe_int (pv 1))) pe_int (nomark _))
      (pss_one (ps_set (i := 1) nd rfl (by first | exact Or.inl rfl | exact Or.inr rfl) (pe_op op_umul pe_int (pv 1)))))
      (pss_one (ps_ret (pv 1))))), ?_⟩
    clear nd
    obtain ⟨i, rfl, i0, i1, q⟩ := h
    walk_at "vs"
    refine v_while (fun σ H' => H' = H ∧ ∃ (k : Nat) (j : Int), σ = [some (.int i), some (.int (2 ^ k))] ∧ 0 < j ∧ i = 2 ^ k * j)
      (fun σ _ => match σ with | [_, some (.int b)] => (i - b).toNat | _ => 0) ⟨rfl, 0, i, rfl, by omega, by omega⟩ ?_
    rintro σ H2 ⟨rfl, k, j, rfl, j0, e⟩
    have hp := pow_pos2 k
    walk_at "vs"
    have hm : i % (2 * 2 ^ k) = 2 ^ k * (j % 2) := by rw [e, Int.mul_comm 2, Int.mul_emod_mul_of_pos _ _ hp]
    rw [hm]
    have hj : (2 : Int) ^ k * 1 ≤ 2 ^ k * j := Int.mul_le_mul_of_nonneg_left (by omega) (by omega)
    refine v_iteD (fun hz => ?_) (fun hz => ?_)
    · refine v_wt ?_
      walk_at "vs"
      have hj2 : j % 2 = 0 := by
        rcases Int.mul_eq_zero.mp hz with c | c
        · omega
        · exact c
      have hj3 : (2 : Int) ^ k * 2 ≤ 2 ^ k * j := Int.mul_le_mul_of_nonneg_left (by omega) (by omega)
      refine ⟨⟨rfl, k + 1, j / 2, by rw [pow2_succ]; rfl, by omega, ?_⟩, ?_⟩
      · rw [e, Int.pow_succ, Int.mul_assoc]
        congr 1
        omega
      · show (i - 2 * 2 ^ k).toNat < (i - 2 ^ k).toNat
        omega
    · walk_at "vs"
      have hj2 : j % 2 = 1 := by
        rcases Int.emod_two_eq j with c | c
        · rw [c] at hz; simp at hz
        · exact c
      have el : low i = 2 ^ k := by
        rw [e, show j = 2 * (j / 2) + 1 by omega]
        exact low_of k _
      rw [← el]
      exact q
abbrev s__law_keeps : Stmt := topS 20
theorem sc__law_keeps : FnScope ["_law_farthest_here", "_law_place"] ["_law_farthest_here", "_law_place"] (defScope s__law_keeps) := ⟨rfl, rfl, rfl, by decide +kernel, rfl, by decide +kernel, by decide +kernel⟩
theorem ok__law_keeps (T : Txt K mg) (D : DefAt K mg "_law_keeps" s__law_keeps) (O__law_bit : Own P w K mg base "_law_bit" 1 ["_law_step"] (sp_bit)) : Own P w K mg base "_law_keeps" 2 ["_law_farthest_here", "_law_place"] (sp_lkeeps) := by
  refine own_of D (fun _ _ _ _ _ _ us hl => match us, hl with | [_, _], _ => rfl) (fnW_of (N := ["_law_farthest_here", "_law_place"]) sc__law_keeps (fun vs H Q E h => ?_) (fun f cdv A outer s H vs Q E hr h => ?_))
  · obtain ⟨n, p, rfl, _⟩ := h; rfl
  · have nd := sc__law_keeps.nd
    have hu := L2H.roomH_of hr
    have TK : L2N.Takes (cxOf (L2N.CX P w) P w K mg base ["_law_farthest_here", "_law_place"] "_law_keeps" (defScope s__law_keeps) f cdv A outer s H E) (fun cls d _ H => E cls d H) := L2N.takes_of rfl rfl rfl rfl
    refine ⟨_, (pss_one (ps_ret (pe_or (pe_cmpR (op_ueq (K := K) hu) (pv 1) pe_int (nomark _)) (pe_one (pe_cmpR op_le (pe_op op_sub (pv 0) (pv 1)) (pe_op op_umul pe_int (pe_own O__law_bit (by decide) hr rfl (fun σ => L2N.passAt TK σ) (pa_cons (pv 1) pa_nil))) (nomark _)))))), ?_⟩
    clear nd
    obtain ⟨n, p, rfl, p0, p1, q⟩ := h
    walk_at "vs"
    refine v_iteD (fun h0 => ?_) (fun h0 => ?_)
    · rw [keepB, decide_eq_true h0, Bool.true_or] at q
      exact q
    · walk_at "vs"
      refine ⟨p, rfl, by omega, p1, ?_⟩
      walk_at "vs"
      rw [keepB, decide_eq_false h0, Bool.false_or] at q
      exact q
abbrev s__law_alone : Stmt := topS 21
theorem sc__law_alone : FnScope ["_law_e", "_law_kinds"] ["_law_e"] (defScope s__law_alone) := ⟨rfl, rfl, rfl, by decide +kernel, rfl, by decide +kernel, by decide +kernel⟩
theorem ok__law_alone (T : Txt K mg) (D : DefAt K mg "_law_alone" s__law_alone) : OwnP P w K mg base "_law_alone" 1 ["_law_e"] (sp_alone T.x_NoStep.C) := by
  refine ownP_of (N := ["_law_e", "_law_kinds"]) D (fun _ _ _ _ _ _ us hl => match us, hl with | [_], _ => rfl) sc__law_alone (fun a cls d vs H Q E h => ?_) (fun f cdv A outer s H vs Q E e cls d hot hz hr h => ?_)
  · obtain ⟨rfl, _⟩ := h; rfl
  · have nd := sc__law_alone.nd
    have hu := hr
    refine ⟨_, (pss_cons (ps_set (i := 1) nd rfl (by first | exact Or.inl rfl | exact Or.inr rfl) (pe_lst (pa_cons (pe_callB (call_isP (K := K) (e := e) List.mem_cons_self hz (hot_fields hot)) (by rfl) T.n_isinstance (by decide +kernel) (pa_cons (pv 0) (pa_cons (pe_glob (v := .ref (T.x_NoProgram).C) rfl (T.x_NoProgram).g rfl) pa_nil))) (pa_cons (pe_callB (call_isP (K := K) (e := e) List.mem_cons_self hz (hot_fields hot)) (by rfl) T.n_isinstance (by decide +kernel) (pa_cons (pv 0) (pa_cons (pe_glob (v := .ref (T.x_NoRow).C) rfl (T.x_NoRow).g rfl) pa_nil))) (pa_cons (pe_callB (call_isP (K := K) (e := e) List.mem_cons_self hz (hot_fields hot)) (by rfl) T.n_isinstance (by decide +kernel) (pa_cons (pv 0) (pa_cons (pe_glob (v := .ref (T.x_TooLong).C) rfl (T.x_TooLong).g rfl) pa_nil))) (pa_cons (pe_callB (call_isP (K := K) (e := e) List.mem_cons_self hz (hot_fields hot)) (by rfl) T.n_isinstance (by decide +kernel) (pa_cons (pv 0) (pa_cons (pe_glob (v := .ref (T.x_NoWorld).C) rfl (T.x_NoWorld).g rfl) pa_nil))) pa_nil))))))
      (pss_cons (ps_set (i := 1) nd rfl (by first | exact Or.inl rfl | exact Or.inr rfl) (pe_op (op_uadd (K := K)) (pv 1) (pe_lst (pa_cons (pe_callB (call_isP (K := K) (e := e) List.mem_cons_self hz (hot_fields hot)) (by rfl) T.n_isinstance (by decide +kernel) (pa_cons (pv 0) (pa_cons (pe_glob (v := .ref (T.x_NoText).C) rfl (T.x_NoText).g rfl) pa_nil))) (pa_cons (pe_callB (call_isP (K := K) (e := e) List.mem_cons_self hz (hot_fields hot)) (by rfl) T.n_isinstance (by decide +kernel) (pa_cons (pv 0) (pa_cons (pe_glob (v := .ref (T.x_NoStep).C) rfl (T.x_NoStep).g rfl) pa_nil))) (pa_cons (pe_callB (call_isP (K := K) (e := e) List.mem_cons_self hz (hot_fields hot)) (by rfl) T.n_isinstance (by decide +kernel) (pa_cons (pv 0) (pa_cons (pe_glob (v := .ref (T.x_NoCell).C) rfl (T.x_NoCell).g rfl) pa_nil))) (pa_cons (pe_callB (call_isP (K := K) (e := e) List.mem_cons_self hz (hot_fields hot)) (by rfl) T.n_isinstance (by decide +kernel) (pa_cons (pv 0) (pa_cons (pe_glob (v := .ref (T.x_NoDoor).C) rfl (T.x_NoDoor).g rfl) pa_nil))) pa_nil)))))))
      (pss_one (ps_ret (pe_and (pe_cmpR (op_ueq (K := K) hu) (pe_bm PySem.F.plainAttrs_list PySem.F.slot_list_count PySem.F.type_list_count (mt_cnt (K := K)) (pe_op (op_uadd (K := K)) (pv 1) (pe_lst (pa_cons (pe_callB (call_isP (K := K) (e := e) List.mem_cons_self hz (hot_fields hot)) (by rfl) T.n_isinstance (by decide +kernel) (pa_cons (pv 0) (pa_cons (pe_glob (v := .ref (T.x_NoWord).C) rfl (T.x_NoWord).g rfl) pa_nil))) pa_nil))) (pa_cons pe_bl pa_nil)) pe_int (nomark _)) (pe_one (pe_callB (call_isP (K := K) (e := e) List.mem_cons_self hz (hot_fields hot)) (by rfl) T.n_isinstance (by decide +kernel) (pa_cons (pv 0) (pa_cons (pe_bltn (v := .ty "ValueError") (by rfl) T.n_ValueError (by decide +kernel) rfl) pa_nil))))))))), ?_⟩
    clear nd
    obtain ⟨rfl, rfl, rfl, q⟩ := h
    walk_at "vs"
    refine v_isE T.x_NoStep.cc (fun _ z => z) T.kit_NoStep__NoProgram ?_
    walk_at "vs"
    refine v_isE T.x_NoStep.cc (fun _ z => z) T.kit_NoStep__NoRow ?_
    walk_at "vs"
    refine v_isE T.x_NoStep.cc (fun _ z => z) T.kit_NoStep__TooLong ?_
    walk_at "vs"
    refine v_isE T.x_NoStep.cc (fun _ z => z) T.kit_NoStep__NoWorld ?_
    walk_at "vs"
    refine v_newL (line9 (by decide)) fun a1 H1 n1 c1 h1 => ?_
    walk_at "vs"
    refine v_isE T.x_NoStep.cc (fun _ z => z) T.kit_NoStep__NoText ?_
    walk_at "vs"
    refine v_isE T.x_NoStep.cc (fun _ z => z) T.kit_NoStep__NoStep ?_
    walk_at "vs"
    refine v_isE T.x_NoStep.cc (fun _ z => z) T.kit_NoStep__NoCell ?_
    walk_at "vs"
    refine v_isE T.x_NoStep.cc (fun _ z => z) T.kit_NoStep__NoDoor ?_
    walk_at "vs"
    refine v_newL (line9 (by decide)) fun a2 H2 n2 c2 h2 => ?_
    walk_at "vs"
    refine v_add_ll (c2.at h1) h2 (line9 (by decide)) fun a3 H3 n3 c3 h3 => ?_
    walk_at "vs"
    refine v_isE T.x_NoStep.cc (fun _ z => z) T.kit_NoStep__NoWord ?_
    walk_at "vs"
    refine v_newL (line9 (by decide)) fun a4 H4 n4 c4 h4 => ?_
    walk_at "vs"
    refine v_add_ll (c4.at h3) h4 (line9 (by decide)) fun a5 H5 n5 c5 h5 => ?_
    refine v_bml (SqL.of h5) ?_
    walk_at "vs"
    refine v_cnt (SqL.of h5) rfl (by decide) ?_
    walk_at "vs"
    refine v_iteD (fun _ => ?_) (fun z => absurd (by decide) z)
    walk_at "vs"
    refine v_isE T.x_NoStep.cc (fun _ z => z) T.kit_NoStep_T_ValueError ?_
    exact q H5 (((c1.trans c2).trans c3).trans (c4.trans c5))
abbrev s__law_refused : Stmt := topS 22
theorem sc__law_refused : FnScope ["_law_way", "_law_farthest_here", "_law_place", "_law_e"] ["_law_way", "_law_farthest_here", "_law_place"] (defScope s__law_refused) := ⟨rfl, rfl, rfl, by decide +kernel, rfl, by decide +kernel, by decide +kernel⟩
theorem ok__law_refused (T : Txt K mg) (D : DefAt K mg "_law_refused" s__law_refused) (O_lowest_bit : Own P w K mg base "lowest_bit" 2 ["step"] (sp_low T.x_NoStep.C)) (O_keeps : Own P w K mg base "keeps" 3 ["farthest", "place"] (sp_keeps T.x_NoStep.C)) (O_kept_places : Own P w K mg base "kept_places" 2 ["farthest"] (sp_kept T.x_NoStep.C)) (O__law_alone : OwnP P w K mg base "_law_alone" 1 ["_law_e"] (sp_alone T.x_NoStep.C)) : Own P w K mg base "_law_refused" 4 ["_law_way", "_law_farthest_here", "_law_place"] (sp_ref) := by
  refine own_of D (fun _ _ _ _ _ _ us hl => match us, hl with | [_, _, _], _ => rfl) (fnW_of (N := ["_law_way", "_law_farthest_here", "_law_place", "_law_e"]) sc__law_refused (fun vs H Q E h => ?_) (fun f cdv A outer s H vs Q E hr h => ?_))
  · obtain ⟨w, x, y, rfl, _⟩ := h; rfl
  · have nd := sc__law_refused.nd
    have hu := L2H.roomH_of hr
    have TK : L2N.Takes (cxOf (L2N.CX P w) P w K mg base ["_law_way", "_law_farthest_here", "_law_place", "_law_e"] "_law_refused" (defScope s__law_refused) f cdv A outer s H E) (fun cls d _ H => E cls d H) := L2N.takes_of rfl rfl rfl rfl
    refine ⟨_, (pss_cons (ps_tryU (K := K) (i := 3) nd rfl ⟨rfl, by decide, Or.inl (T.x_RunError).g⟩ TK)
      (pss_one (ps_ret pe_bl))), ?_⟩
    clear nd
    obtain ⟨w, x, y, rfl, fx, fy, no, q⟩ := h
    walk_at "vs"
    intro pn xe tk hpo
    refine ⟨_, (pss_one (ps_if (pt_cmpR (op_ueq (K := K) hu) (pv 0) pe_int (nomark _))   (pss_one (ps_expr (pe_own O_lowest_bit (by decide) hr rfl (fun σ => L2N.passAt tk σ) (pa_cons (pv 2) pa_nil)))) (pss_one (ps_if (pt_cmpR (op_ueq (K := K) hu) (pv 0) pe_int (nomark _))   (pss_one (ps_expr (pe_own O_keeps (by decide) hr rfl (fun σ => L2N.passAt tk σ) (pa_cons (pv 1) (pa_cons (pv 2) pa_nil))))) (pss_one (ps_expr (pe_own O_kept_places (by decide) hr rfl (fun σ => L2N.passAt tk σ) (pa_cons (pv 1) pa_nil)))))))), ?_⟩
    walk_at "vs"
    rcases no with ⟨rfl, no⟩ | ⟨rfl, no⟩ | ⟨rfl, no⟩
    · refine v_iteD (fun _ => ?_) (fun z => absurd rfl z)
      walk_at "vs"
      refine ⟨y, rfl, fy, fun ok => absurd ok (by rw [no]; decide), fun _ => ?_⟩
      refine ⟨true, T.exm_NoStep__RunError, fun _ a na => ?_, fun z => nomatch z⟩
      intro oe pn hz hf
      refine ⟨_, (pss_one (ps_ret (pe_and (pe_callB (call_isP (K := K) (e := (a, oe)) List.mem_cons_self hz.zc hf) (by rfl) T.n_isinstance (by decide +kernel) (pa_cons (pv 3) (pa_cons (pe_glob (v := .ref (T.x_NoStep).C) rfl (T.x_NoStep).g rfl) pa_nil))) (pe_one (pe_ownP (q := (a, oe)) O__law_alone (by decide) (markH (L2H.roomH_of hr)) (hot_of hz hf) List.mem_cons_self hz.zc rfl passN (pa_cons (pv 3) pa_nil)))))), ?_⟩
      walk_at "vs"
      refine v_isE T.x_NoStep.cc (fun _ z => z) T.kit_NoStep__NoStep ?_
      walk_at "vs"
      exact ⟨rfl, rfl, rfl, q⟩
    · refine v_iteD (fun z => absurd z (by decide)) (fun _ => ?_)
      walk_at "vs"
      refine v_iteD (fun _ => ?_) (fun z => absurd rfl z)
      walk_at "vs"
      refine ⟨x, y, rfl, fx, fy, fun n s' hx hy n0 n1 s0 s1 => ?_, fun _ => ?_, fun n hx ok no2 => ?_⟩
      · exfalso
        subst hx hy
        rcases no with z | ⟨n', hn, _, z⟩
        · have := okStep_no z; omega
        · cases hn
          have := okStep_no z; omega
      all_goals
        refine ⟨true, T.exm_NoStep__RunError, fun _ a na => ?_, fun z => nomatch z⟩
        intro oe pn hz hf
        refine ⟨_, (pss_one (ps_ret (pe_and (pe_callB (call_isP (K := K) (e := (a, oe)) List.mem_cons_self hz.zc hf) (by rfl) T.n_isinstance (by decide +kernel) (pa_cons (pv 3) (pa_cons (pe_glob (v := .ref (T.x_NoStep).C) rfl (T.x_NoStep).g rfl) pa_nil))) (pe_one (pe_ownP (q := (a, oe)) O__law_alone (by decide) (markH (L2H.roomH_of hr)) (hot_of hz hf) List.mem_cons_self hz.zc rfl passN (pa_cons (pv 3) pa_nil)))))), ?_⟩
        walk_at "vs"
        refine v_isE T.x_NoStep.cc (fun _ z => z) T.kit_NoStep__NoStep ?_
        walk_at "vs"
        exact ⟨rfl, rfl, rfl, q⟩
    · refine v_iteD (fun z => absurd z (by decide)) (fun _ => ?_)
      walk_at "vs"
      refine v_iteD (fun z => absurd z (by decide)) (fun _ => ?_)
      walk_at "vs"
      refine ⟨x, rfl, fx, fun n hx n0 n1 => ?_, fun _ => ?_⟩
      · exfalso
        subst hx
        have := okStep_no no; omega
      refine ⟨true, T.exm_NoStep__RunError, fun _ a na => ?_, fun z => nomatch z⟩
      intro oe pn hz hf
      refine ⟨_, (pss_one (ps_ret (pe_and (pe_callB (call_isP (K := K) (e := (a, oe)) List.mem_cons_self hz.zc hf) (by rfl) T.n_isinstance (by decide +kernel) (pa_cons (pv 3) (pa_cons (pe_glob (v := .ref (T.x_NoStep).C) rfl (T.x_NoStep).g rfl) pa_nil))) (pe_one (pe_ownP (q := (a, oe)) O__law_alone (by decide) (markH (L2H.roomH_of hr)) (hot_of hz hf) List.mem_cons_self hz.zc rfl passN (pa_cons (pv 3) pa_nil)))))), ?_⟩
      walk_at "vs"
      refine v_isE T.x_NoStep.cc (fun _ z => z) T.kit_NoStep__NoStep ?_
      walk_at "vs"
      exact ⟨rfl, rfl, rfl, q⟩
abbrev s__law_farthest : Stmt := topS 23
theorem sc__law_farthest : FnScope ["_law_cell", "_law_power", "_law_k", "_law_low"] ["_law_cell"] (defScope s__law_farthest) := ⟨rfl, rfl, rfl, by decide +kernel, rfl, by decide +kernel, by decide +kernel⟩
theorem ok__law_farthest (T : Txt K mg) (D : DefAt K mg "_law_farthest" s__law_farthest) : Own P w K mg base "_law_farthest" 1 ["_law_cell"] (sp_far) := by
  refine own_of D (fun _ _ _ _ _ _ us hl => match us, hl with | [_], _ => rfl) (fnW_of (N := ["_law_cell", "_law_power", "_law_k", "_law_low"]) sc__law_farthest (fun vs H Q E h => ?_) (fun f cdv A outer s H vs Q E hr h => ?_))
  · obtain ⟨i, rfl, _⟩ := h; rfl
  · have nd := sc__law_farthest.nd
    have hu := L2H.roomH_of hr
    refine ⟨_, (pss_cons (ps_set (i := 1) nd rfl (by first | exact Or.inl rfl | exact Or.inr rfl) pe_int)
      (pss_cons (ps_for (passes_of rfl) rfl (pi_range1 rfl T.n_range (pa_cons (pe_op op_mod (pe_op op_fdiv (pv 0) pe_int) pe_int) pa_nil)) (pg_name (i := 2) nd rfl (by first | exact Or.inl rfl | exact Or.inr rfl))
      (pss_one (ps_set (i := 1) nd rfl (by first | exact Or.inl rfl | exact Or.inr rfl) (pe_op op_umul pe_int (pv 1)))))
      (pss_cons (ps_set (i := 3) nd rfl (by first | exact Or.inl rfl | exact Or.inr rfl) (pe_callB (call_umax2 rfl) (by rfl) T.n_max (by decide +kernel) (pa_cons pe_int (pa_cons (pe_op op_sub (pe_op (op_uadd (K := K)) (pv 1) (pe_op op_mod (pe_op op_fdiv (pv 0) pe_int) pe_int)) pe_int) pa_nil))))
      (pss_one (ps_ret (pe_ix (ix_u (K := K) hu) (pe_lst (pa_cons (pe_op op_mod (pe_op op_fdiv (pv 0) pe_int) pe_int) (pa_cons (pe_op op_mod (pe_op op_fdiv (pv 0) pe_int) pe_int) (pa_cons (pe_op op_mod (pe_op op_fdiv (pv 0) pe_int) pe_int) (pa_cons (pe_callB (call_umin2 rfl) (by rfl) T.n_min (by decide +kernel) (pa_cons (pv 3) (pa_cons (pe_op op_pow pe_int pe_int) pa_nil))) pa_nil))))) (pe_op op_mod (pv 0) pe_int) (fun _ _ => rfl))))))), ?_⟩
    clear nd
    obtain ⟨c, rfl, q⟩ := h
    walk_at "vs"
    have hm0 := Int.emod_nonneg (c / 4) (show (20 : Int) ≠ 0 by decide)
    have hm1 := Int.emod_lt_of_pos (c / 4) (show (0 : Int) < 20 by decide)
    refine v_rng1' (by omega) (by omega) ?_
    refine v_for_range (fun i σ H' => H' = H ∧ ∃ (x : Int) (v : Option V), σ = [some (.int c), some (.int x), v, none] ∧ 1 ≤ x ∧ x ≤ 2 ^ i) ⟨rfl, 1, none, rfl, by omega, by decide⟩ ?_ ?_
    · rintro i σ H2 hi ⟨rfl, x, v, rfl, x0, x1⟩
      walk_at "vs"
      refine ⟨rfl, 2 * x, _, rfl, by omega, ?_⟩
      rw [pow2_succ]; omega
    · rintro σ H2 ⟨rfl, x, v, rfl, x0, x1⟩
      have hx : x ≤ 2 ^ 20 := Int.le_trans x1 (pow_mono (by omega))
      walk_at "vs"
      refine v_newL (line9 (by show 4 ≤ 10000; decide)) fun a H1 na c1 ha => ?_
      walk_at "vs"
      refine v_ix_lany (SqL.of ha) (by omega) (by show c % 4 < 4; omega) fun v hv => ?_
      have e6 : (10 : Int) ^ Int.toNat 6 = 1000000 := by decide
      rw [e6] at hv
      have key : ∃ n, v = .int n ∧ 0 ≤ n ∧ n ≤ 1000000 := by
        rcases (show c % 4 = 0 ∨ c % 4 = 1 ∨ c % 4 = 2 ∨ c % 4 = 3 by omega) with e | e | e | e
        all_goals rw [e] at hv; cases hv
        · exact ⟨_, rfl, by omega, by omega⟩
        · exact ⟨_, rfl, by omega, by omega⟩
        · exact ⟨_, rfl, by omega, by omega⟩
        · refine ⟨_, rfl, ?_, ?_⟩
          · split <;> split <;> omega
          · split <;> split <;> omega
      obtain ⟨n, rfl, n0, n1⟩ := key
      exact q n H1 n0 n1 c1
abbrev s__law_due : Stmt := topS 24
theorem sc__law_due : FnScope ["_law_farthest_here", "_law_found", "_law_bit_here", "_law_k", "_law_place"] ["_law_farthest_here"] (defScope s__law_due) := ⟨rfl, rfl, rfl, by decide +kernel, rfl, by decide +kernel, by decide +kernel⟩
theorem ok__law_due (T : Txt K mg) (D : DefAt K mg "_law_due" s__law_due) (O__law_keeps : Own P w K mg base "_law_keeps" 2 ["_law_farthest_here", "_law_place"] (sp_lkeeps)) : Own P w K mg base "_law_due" 3 ["_law_farthest_here"] (sp_due) := by
  refine own_of D (fun _ _ _ _ _ _ us hl => match us, hl with | [_], _ => rfl) (fnW_of (N := ["_law_farthest_here", "_law_found", "_law_bit_here", "_law_k", "_law_place"]) sc__law_due (fun vs H Q E h => ?_) (fun f cdv A outer s H vs Q E hr h => ?_))
  · obtain ⟨n, rfl, _⟩ := h; rfl
  · have nd := sc__law_due.nd
    have hu := L2H.roomH_of hr
    have TK : L2N.Takes (cxOf (L2N.CX P w) P w K mg base ["_law_farthest_here", "_law_found", "_law_bit_here", "_law_k", "_law_place"] "_law_due" (defScope s__law_due) f cdv A outer s H E) (fun cls d _ H => E cls d H) := L2N.takes_of rfl rfl rfl rfl
    refine ⟨_, (pss_cons (ps_set (i := 1) nd rfl (by first | exact Or.inl rfl | exact Or.inr rfl) (pe_disp (pps_cons pe_int pe_bl pps_nil) rfl rfl (by simp) (by decide)))
      (pss_cons (ps_set (i := 2) nd rfl (by first | exact Or.inl rfl | exact Or.inr rfl) pe_int)
      (pss_cons (ps_while (passes_of rfl) (pt_cmpR op_le (pv 2) (pv 0) (nomark _))
      (pss_cons (ps_for (passes_of rfl) rfl (pi_range1 rfl T.n_range (pa_cons pe_int pa_nil)) (pg_name (i := 3) nd rfl (by first | exact Or.inl rfl | exact Or.inr rfl))
      (pss_cons (ps_set (i := 4) nd rfl (by first | exact Or.inl rfl | exact Or.inr rfl) (pe_op op_umul (pe_op op_sub (pe_op op_fdiv (pv 0) (pv 2)) (pv 3)) (pv 2)))
      (pss_one (ps_if (PW.pt (pw_and (pt_cmpR op_gt (pv 4) pe_int (nomark _)) (pw_and1 (pt_u (K := K) (pe_own O__law_keeps (by decide) hr rfl (fun σ => L2N.passAt TK σ) (pa_cons (pv 0) (pa_cons (pv 4) pa_nil)))))))
      (pss_one (ps_asg pe_bl (pg_sub (pv 1) (pv 4) (set_u hu)))) pss_nil))))
      (pss_one (ps_set (i := 2) nd rfl (by first | exact Or.inl rfl | exact Or.inr rfl) (pe_op op_umul pe_int (pv 2))))))
      (pss_one (ps_ret (pe_callB (cr_usorted (K := K)) (by rfl) T.n_sorted (by decide +kernel) (pa_cons (pe_callTy (call_ulist (K := K) rfl) (by rfl) T.n_list (by decide +kernel) (pa_cons (pv 1) pa_nil)) pa_nil))))))), ?_⟩
    clear nd
    obtain ⟨n, rfl, n0, n1, q⟩ := h
    walk_at "vs"
    refine v_disp fun d H0 nd0 c0 hd0 => ?_
    walk_at "vs"
    refine v_dispE [(Sum.inl 0, V.bl true)] hd0 rfl (by decide) fun H1 c1 hd1 => ?_
    have cd : Chg [d] H0 H1 := c1
    walk_at "vs"
    refine v_while (fun σ H' => ∃ (k : Nat) (F : List Int) (kvs : List (Key × V)) (v1 v2 : Option V), σ = [some (.int n), some (.ref d), some (.int (2 ^ k)), v1, v2] ∧ Chg [d] H0 H' ∧ H' d = some (.dK kvs) ∧ kvs.map (·.1) = F.map Sum.inl ∧ Due n k F ∧ (2 : Int) ^ k ≤ 2 * n + 1)
      (fun σ _ => match σ with | [_, _, some (.int b), _, _] => (2 * n + 2 - b).toNat | _ => 0) ⟨0, [0], _, none, none, rfl, cd, hd1, rfl, due0 n n0, by omega⟩ ?_
    rintro σ H2 ⟨k, F, kvs, v1, v2, rfl, c2, hd2, hks, hF, hk⟩
    have hp := pow_pos2 k
    have hq0 : 0 ≤ n / 2 ^ k := Int.ediv_nonneg n0 (by omega)
    have k60 : k ≤ 63 := by
      rcases Nat.lt_or_ge k 64 with c | c
      · omega
      · exfalso
        obtain ⟨d, rfl⟩ := Nat.exists_eq_add_of_le c
        rw [Int.pow_add] at hk
        have := pow_pos2 d
        have : (2 : Int) ^ 64 * 1 ≤ 2 ^ 64 * 2 ^ d := Int.mul_le_mul_of_nonneg_left (by omega) (by omega)
        omega
    walk_at "vs"
    refine v_iteD (fun hb => ?_) (fun hb => ?_)
    · refine v_wt ?_
      walk_at "vs"
      have hl : n / 2 ^ k * 2 ^ k ≤ n := by
        have := Int.emod_add_mul_ediv n (2 ^ k)
        have := Int.emod_nonneg n (show (2 : Int) ^ k ≠ 0 by omega)
        have := Int.mul_comm (2 ^ k) (n / 2 ^ k)
        omega
      refine v_rng1' (by omega) (by omega) ?_
      refine v_for_range (fun i σ H' => ∃ (F : List Int) (kvs : List (Key × V)) (v1 v2 : Option V), σ = [some (.int n), some (.ref d), some (.int (2 ^ k)), v1, v2] ∧ Chg [d] H0 H' ∧ H' d = some (.dK kvs) ∧ kvs.map (·.1) = F.map Sum.inl ∧ DueI n k (n / 2 ^ k) i F)
        ⟨F, kvs, v1, v2, rfl, c2, hd2, hks, dueI0 hF⟩ ?_ ?_
      · rintro i σ H3 hi ⟨F, kvs, v1, v2, rfl, c3, hd3, hks, hG⟩
        have hle : (n / 2 ^ k - i) * 2 ^ k ≤ n := by
          have : (i : Int) * 2 ^ k ≥ 0 := Int.mul_nonneg (by omega) (by omega)
          rw [Int.sub_mul]; omega
        walk_at "vs"
        rw [Int.zero_add]
        refine v_iteD (fun h1 => ?_) (fun h1 => ?_)
        · walk_at "vs"
          refine ⟨n, (n / 2 ^ k - i) * 2 ^ k, rfl, by omega, by omega, ?_⟩
          walk_at "vs"
          refine v_iteB (fun h2 => ?_) (fun h2 => ?_)
          · walk_at "vs"
            have hlen : kvs.length = F.length := by have := congrArg List.length hks; simpa using this
            have := hG.2.2.2
            refine v_set_d (k := Sum.inl _) hd3 rfl (line9' (by omega)) fun H4 c4 hd4 => ?_
            walk_at "vs"
            by_cases hm : (n / 2 ^ k - i) * 2 ^ k ∈ F
            · exact ⟨F, _, _, _, rfl, c3.trans c4, hd4, keys_old hks hm, dueI_old hG hm⟩
            · exact ⟨_, _, _, _, rfl, c3.trans c4, hd4, keys_new hks hm, dueI_new hG hm h1 hle h2⟩
          · walk_at "vs"
            exact ⟨F, kvs, _, _, rfl, c3, hd3, hks, dueI_no hG (fun z => by rw [z.2] at h2; cases h2)⟩
        · walk_at "vs"
          exact ⟨F, kvs, _, _, rfl, c3, hd3, hks, dueI_no hG (fun z => h1 z.1)⟩
      · rintro σ H3 ⟨F, kvs, v1, v2, rfl, c3, hd3, hks, hG⟩
        walk_at "vs"
        refine ⟨⟨k + 1, F, kvs, _, _, by rw [pow2_succ]; rfl, c3, hd3, hks, due_end n0 hG, by rw [Int.pow_succ]; omega⟩, ?_⟩
        show (2 * n + 2 - 2 * 2 ^ k).toNat < (2 * n + 2 - 2 ^ k).toNat
        omega
    · walk_at "vs"
      refine v_list_d hd2 fun p H3 hp3 c3 hl3 => ?_
      rw [keys_list hks] at hl3
      walk_at "vs"
      refine v_sorted_i (SqL.of hl3) fun ms b H4 hpm hs hbn c4 hb4 => ?_
      have c : Chg [] H H4 := (c0.trans' c2 (fun l hm => .inr (by rw [List.mem_singleton] at hm; subst hm; exact nd0))).trans (c3.trans c4)
      refine q b ms H4 c (c0.dom ?_) hb4 (asc_of hs (hpm.nodup_iff.mpr hF.1)) fun p => by rw [hpm.mem_iff, due_all n0 (by omega) hF p]
      have h1 := c3.dom hbn
      cases e : H0 b with
      | none => rfl
      | some o =>
        by_cases z : b = d
        · subst z; rw [hd2] at h1; cases h1
        · rw [c2.keep e (by simpa using z)] at h1; cases h1
abbrev s__law_listed : Stmt := topS 25
theorem sc__law_listed : FnScope ["_law_farthest_here", "_law_found", "_law_one", "_law_due_here", "_law_place"] ["_law_farthest_here"] (defScope s__law_listed) := ⟨rfl, rfl, rfl, by decide +kernel, rfl, by decide +kernel, by decide +kernel⟩
theorem ok__law_listed (T : Txt K mg) (D : DefAt K mg "_law_listed" s__law_listed) (O_kept_places : Own P w K mg base "kept_places" 2 ["farthest"] (sp_kept T.x_NoStep.C)) (O__law_keeps : Own P w K mg base "_law_keeps" 2 ["_law_farthest_here", "_law_place"] (sp_lkeeps)) (O__law_due : Own P w K mg base "_law_due" 3 ["_law_farthest_here"] (sp_due)) : Own P w K mg base "_law_listed" 4 ["_law_farthest_here"] (sp_listed) := by
  refine own_of D (fun _ _ _ _ _ _ us hl => match us, hl with | [_], _ => rfl) (fnW_of (N := ["_law_farthest_here", "_law_found", "_law_one", "_law_due_here", "_law_place"]) sc__law_listed (fun vs H Q E h => ?_) (fun f cdv A outer s H vs Q E hr h => ?_))
  · obtain ⟨n, rfl, _⟩ := h; rfl
  · have nd := sc__law_listed.nd
    have hu := L2H.roomH_of hr
    have TK : L2N.Takes (cxOf (L2N.CX P w) P w K mg base ["_law_farthest_here", "_law_found", "_law_one", "_law_due_here", "_law_place"] "_law_listed" (defScope s__law_listed) f cdv A outer s H E) (fun cls d _ H => E cls d H) := L2N.takes_of rfl rfl rfl rfl
    refine ⟨_, (pss_cons (ps_set (i := 1) nd rfl (by first | exact Or.inl rfl | exact Or.inr rfl) (pe_own O_kept_places (by decide) hr rfl (fun σ => L2N.passAt TK σ) (pa_cons (pv 0) pa_nil)))
      (pss_cons (ps_if (PW.pt (pw_or (pt_not (pt_u (K := K) (pe_callB (call_uisi (K := K)) (by rfl) T.n_isinstance (by decide +kernel) (pa_cons (pv 1) (pa_cons (pe_bltn (v := .ty "list") (by rfl) T.n_list (by decide +kernel) rfl) pa_nil))))) (pw_or1 (pt_cmpR (op_une (K := K) hu) (pe_lc (own := [("_law_one", 2)]) rfl nd (pi_u (K := K) (pv 1)) (blkOk_by (N := ["_law_farthest_here", "_law_found", "_law_one", "_law_due_here", "_law_place"]) (sc := defScope s__law_listed) (by decide +kernel)) (fun _ _ _ _ _ => (pg_name (i := 2) nd rfl (by first | exact Or.inl rfl | exact Or.inr rfl))) (fun _ _ _ _ _ => (pts_one (pt_u (K := K) (pe_callB (call_uisi (K := K)) (by rfl) T.n_isinstance (by decide +kernel) (pa_cons (pv 2) (pa_cons (pe_bltn (v := .ty "bool") (by rfl) T.n_bool (by decide +kernel) rfl) pa_nil)))))) (fun _ _ _ _ _ => (pv 2))) (pe_lst pa_nil) (nomark _)))))
      (pss_one (ps_ret pe_bl)) pss_nil)
      (pss_cons (ps_if (pt_cmpR op_le (pv 0) pe_int (nomark _))
      (pss_cons (ps_setLc (i := 3) (own := [("_law_place", 4)]) rfl nd rfl rfl (sw_true rfl rfl rfl (by decide +kernel)) (pi_range1 rfl T.n_range (pa_cons (pe_op (op_uadd (K := K)) (pv 0) pe_int) pa_nil)) (blkOk_by (N := ["_law_farthest_here", "_law_found", "_law_one", "_law_due_here", "_law_place"]) (sc := defScope s__law_listed) (by decide +kernel)) (fun _ _ _ _ _ => (pg_name (i := 4) nd rfl (by first | exact Or.inl rfl | exact Or.inr rfl))) (fun _ _ _ _ _ => (pts_one (pt_u (K := K) (pe_own O__law_keeps (by decide) hr rfl passN (pa_cons (pv 0) (pa_cons (pv 4) pa_nil)))))) (fun _ _ _ _ _ => (pv 4)))
      (pss_one (ps_if (pt_cmpR (op_une (K := K) hu) (pv 1) (pv 3) (nomark _))
      (pss_one (ps_ret pe_bl)) pss_nil))) pss_nil)
      (pss_cons (ps_if (PW.pt (pw_or (pt_cmpR (op_une (K := K) hu) (pv 1) (pe_own O__law_due (by decide) hr rfl (fun σ => L2N.passAt TK σ) (pa_cons (pv 0) pa_nil)) (nomark _)) (pw_or1 (pt_cmpR op_gt (pe_callB (call_ulen (K := K)) (by rfl) T.n_len (by decide +kernel) (pa_cons (pv 1) pa_nil)) (pe_op (op_uadd (K := K)) (pe_op op_umul pe_int (pe_bits (pv 0))) pe_int) (nomark _)))))
      (pss_one (ps_ret pe_bl)) pss_nil)
      (pss_cons (ps_expr (pe_bm PySem.F.plainAttrs_list PySem.F.slot_list_append PySem.F.type_list_append mt_append (pv 1) (pa_cons (pe_un un_neg pe_int) pa_nil)))
      (pss_one (ps_ret (pe_cmpR (op_ueq (K := K) hu) (pe_own O_kept_places (by decide) hr rfl (fun σ => L2N.passAt TK σ) (pa_cons (pv 0) pa_nil)) (pe_own O__law_due (by decide) hr rfl (fun σ => L2N.passAt TK σ) (pa_cons (pv 0) pa_nil)) (nomark _))))))))), ?_⟩
    clear nd
    obtain ⟨n, rfl, n0, n1, q⟩ := h
    walk_at "vs"
    refine ⟨.int n, rfl, rfl, fun n' hn _ _ a L H1 c1 na ha hL => ?_, fun z => absurd (okStep_no z) (by omega)⟩
    cases hn
    walk_at "vs"
    refine v_isi_l_list ha ?_
    walk_at "vs"
    refine v_it_l (SqL.of ha) ?_
    refine v_lc_list [] (fun i acc _ => acc = []) (by simp) (fun H' c => SqL.of (c.at ha)) (fun _ _ => rfl) ?_ ?_
    · rintro D i x acc H2 hx nD dS c2 hD rfl
      obtain ⟨p, _, rfl⟩ := List.mem_map.mp (List.mem_of_getElem? hx)
      walk_at "vs"
      refine ⟨rfl, ?_⟩
      walk_at "vs"
      refine v_lcN c2 hD dS .refl ?_; rfl
    rintro D acc H2 c2 nD hD rfl
    walk_at "vs"
    refine v_newL (line9 (by decide)) fun a3 H3 n3 c3 h3 => ?_
    refine v_ne_nil2 (SqL.of (c3.at hD)) (SqL.of h3) ?_
    walk_at "vp"
    have cA : Chg [] H1 H3 := c2.trans c3
    refine v_join (fun σ H' => ∃ v3, σ = [some (.int n), some (.ref a), none, v3, none] ∧ Chg [] H1 H') ?_ ?_
    · rintro σ H4 ⟨v3, rfl, c4⟩
      walk_at "vs"
      refine ⟨n, rfl, n0, n1, fun b M H5 c5 nb hb hM1 hM2 => ?_⟩
      have e : L = M := asc_ext hL.asc hM1 fun p => by rw [hL.mem p, hM2 p]
      subst e
      refine v_ne_ints (SqL.of ((c4.trans c5).at ha)) (SqL.of hb) ?_
      rw [decide_eq_true rfl]
      walk_at "vs"
      refine v_len_l (SqL.of ((c4.trans c5).at ha)) ?_
      walk_at "vs"
      have hlen := hL.len _ (bits_lt n0)
      refine v_iteD (fun z => absurd z ?_) (fun _ => ?_)
      · rw [List.length_map]; omega
      walk_at "vs"
      refine v_bml (SqL.of ((c4.trans c5).at ha)) ?_
      walk_at "vs"
      refine v_append ((c4.trans c5).at ha) ?_ fun H6 c6 ha6 => ?_
      · rw [List.length_map]; exact line9' (by have := hL.len 20 (by omega); omega)
      walk_at "vs"
      refine ⟨.int n, rfl, rfl, fun n' hn _ _ a2 L2 H7 c7 na2 ha2 hL2 => ?_, fun z => absurd (okStep_no z) (by omega)⟩
      cases hn
      walk_at "vs"
      refine ⟨n, rfl, n0, n1, fun b2 M2 H8 c8 nb2 hb2 hM3 hM4 => ?_⟩
      have e : L2 = M2 := asc_ext hL2.asc hM3 fun p => by rw [hL2.mem p, hM4 p]
      subst e
      refine v_eq_ints (SqL.of (c8.at ha2)) (SqL.of hb2) ?_
      rw [decide_eq_true rfl]
      refine q H8 (((c1.trans (c4.trans c5)).trans' c6 (fun l hm => ?_)).trans (c7.trans c8))
      rw [List.mem_singleton] at hm
      subst hm
      exact .inr na
    · intro U hU
      walk_at "vs"
      refine v_iteD (fun hs => ?_) (fun hs => ?_)
      · walk_at "vs"
        refine v_rng1' (by omega) (by omega) ?_
        refine v_lc_range [] (fun i acc _ => acc = (((List.range i).map (Int.ofNat ·)).filter (keepB n)).map V.int) (by simp) (fun _ _ => rfl) ?_ ?_
        · rintro D i acc H5 hi nD dS c5 hD rfl
          have hfl : (((List.range i).map (Int.ofNat ·)).filter (keepB n)).length ≤ i := Nat.le_trans (List.length_filter_le _ _) (by simp)
          walk_at "vs"
          refine ⟨rfl, ?_⟩
          rw [Int.zero_add]
          walk_at "vs"
          refine ⟨n, i, rfl, by omega, by omega, ?_⟩
          walk_at "vs"
          refine v_iteB (fun h => ?_) (fun h => ?_)
          · walk_at "vs"
            refine v_lcA c5 hD nD dS .refl ?_ fun H6 _ => ?_
            · rw [List.length_map]; exact line9' (by omega)
            · rw [List.range_succ, List.map_append, List.filter_append, List.map_append]
              simp [h]
          · refine v_lcN c5 hD dS .refl ?_
            rw [List.range_succ, List.map_append, List.filter_append, List.map_append]
            simp [h]
        · rintro D2 acc H5 c5 nD2 hD2 rfl
          walk_at "vs"
          have e : L = ((List.range (n + 1 - 0).toNat).map (Int.ofNat ·)).filter (keepB n) := asc_ext hL.asc (range_asc _ _) fun p => by
            rw [hL.mem p, range_mem]
            constructor <;> rintro ⟨h1, h2, h3⟩ <;> exact ⟨h1, by omega, h3⟩
          refine v_ne_ints (ns := L) (SqL.of (((c2.trans c3).trans c5).at ha)) (SqL.of hD2) ?_
          have e2 : decide (L = ((List.range (n + 1).toNat).map (Int.ofNat ·)).filter (keepB n)) = true := by
            rw [Int.sub_zero] at e
            exact decide_eq_true e
          rw [e2]
          walk_at "vs"
          exact hU _ _ ⟨_, rfl, cA.trans c5⟩
      · walk_at "vs"
        exact hU _ _ ⟨_, rfl, cA⟩
abbrev s_law : Stmt := topS 26
theorem sc_law : FnScope ["_law_script", "_law_farthest_here", "_law_cell", "_law_place", "_law_one", "_law_found", "_law_odd"] ["_law_script"] (defScope s_law) := ⟨rfl, rfl, rfl, by decide +kernel, rfl, by decide +kernel, by decide +kernel⟩
theorem bw_law : BindW s_law "law" ["_law_script"] := (fun _ _ _ _ _ _ us hl => match us, hl with | [_], _ => rfl)
theorem ok_law (T : Txt K mg) (O__law_farthest : Own P w K mg base "_law_farthest" 1 ["_law_cell"] (sp_far)) (O__law_cell_at : Own P w K mg base "_law_cell_at" 1 ["_law_script", "_law_k"] (sp_cell K)) (O_keeps : Own P w K mg base "keeps" 3 ["farthest", "place"] (sp_keeps T.x_NoStep.C)) (O__law_keeps : Own P w K mg base "_law_keeps" 2 ["_law_farthest_here", "_law_place"] (sp_lkeeps)) (O_lowest_bit : Own P w K mg base "lowest_bit" 2 ["step"] (sp_low T.x_NoStep.C)) (O__law_bit : Own P w K mg base "_law_bit" 1 ["_law_step"] (sp_bit)) (O__law_refused : Own P w K mg base "_law_refused" 4 ["_law_way", "_law_farthest_here", "_law_place"] (sp_ref)) (O__law_listed : Own P w K mg base "_law_listed" 4 ["_law_farthest_here"] (sp_listed)) : FnW P w K mg base "law" s_law 5 ["_law_script"] (sp_law K) := by
  refine fnW_of (N := ["_law_script", "_law_farthest_here", "_law_cell", "_law_place", "_law_one", "_law_found", "_law_odd"]) sc_law (fun vs H Q E h => ?_) (fun f cdv A outer s H vs Q E hr h => ?_)
  · obtain ⟨a, ns, rfl, _⟩ := h; rfl
  · have nd := sc_law.nd
    have hu := L2H.roomH_of hr
    have TK : L2N.Takes (cxOf (L2N.CX P w) P w K mg base ["_law_script", "_law_farthest_here", "_law_cell", "_law_place", "_law_one", "_law_found", "_law_odd"] "law" (defScope s_law) f cdv A outer s H E) (fun cls d _ H => E cls d H) := L2N.takes_of rfl rfl rfl rfl
    refine ⟨_, (pss_cons (ps_set (i := 1) nd rfl (by first | exact Or.inl rfl | exact Or.inr rfl) (pe_own O__law_farthest (by decide) hr rfl (fun σ => L2N.passAt TK σ) (pa_cons (pe_own O__law_cell_at (by decide) hr rfl (fun σ => L2N.passAt TK σ) (pa_cons (pv 0) (pa_cons pe_int pa_nil))) pa_nil)))
      (pss_cons (ps_set (i := 2) nd rfl (by first | exact Or.inl rfl | exact Or.inr rfl) (pe_own O__law_cell_at (by decide) hr rfl (fun σ => L2N.passAt TK σ) (pa_cons (pv 0) (pa_cons pe_int pa_nil))))
      (pss_cons (ps_set (i := 3) nd rfl (by first | exact Or.inl rfl | exact Or.inr rfl) (pe_op op_mod (pv 2) (pe_op (op_uadd (K := K)) (pv 1) pe_int)))
      (pss_cons (ps_for (passes_of rfl) rfl (pi_u (K := K) (pe_lst (pa_cons (pv 3) (pa_cons (pv 1) (pa_cons (pe_op op_fdiv (pv 1) pe_int) (pa_cons (pe_callB (call_umax2 rfl) (by rfl) T.n_max (by decide +kernel) (pa_cons pe_int (pa_cons (pe_op op_sub (pv 1) (pe_op op_mod (pv 2) pe_int)) pa_nil))) pa_nil)))))) (pg_name (i := 4) nd rfl (by first | exact Or.inl rfl | exact Or.inr rfl))
      (pss_cons (ps_set (i := 5) nd rfl (by first | exact Or.inl rfl | exact Or.inr rfl) (pe_own O_keeps (by decide) hr rfl (fun σ => L2N.passAt TK σ) (pa_cons (pv 1) (pa_cons (pv 4) pa_nil))))
      (pss_cons (ps_if (PW.pt (pw_or (pt_not (pt_u (K := K) (pe_callB (call_uisi (K := K)) (by rfl) T.n_isinstance (by decide +kernel) (pa_cons (pv 5) (pa_cons (pe_bltn (v := .ty "bool") (by rfl) T.n_bool (by decide +kernel) rfl) pa_nil))))) (pw_or1 (pt_cmpR (op_une (K := K) hu) (pv 5) (pe_own O__law_keeps (by decide) hr rfl (fun σ => L2N.passAt TK σ) (pa_cons (pv 1) (pa_cons (pv 4) pa_nil))) (nomark _)))))
      (pss_one (ps_ret pe_bl)) pss_nil)
      (pss_one (ps_if (PW.pt (pw_and (pt_cmpR op_gt (pv 4) pe_int (nomark _)) (pw_and1 (pt_cmpR (op_une (K := K) hu) (pe_own O_lowest_bit (by decide) hr rfl (fun σ => L2N.passAt TK σ) (pa_cons (pv 4) pa_nil)) (pe_own O__law_bit (by decide) hr rfl (fun σ => L2N.passAt TK σ) (pa_cons (pv 4) pa_nil)) (nomark _)))))
      (pss_one (ps_ret pe_bl)) pss_nil)))))
      (pss_cons (ps_set (i := 6) nd rfl (by first | exact Or.inl rfl | exact Or.inr rfl) (pe_ix (ix_u (K := K) hu) (pe_lst (pa_cons (pe_un un_neg pe_int) (pa_cons (pe_op (op_uadd (K := K)) (pe_op op_pow pe_int pe_int) pe_int) (pa_cons pe_bl (pa_cons pe_non (pa_cons pe_str (pa_cons (pe_op op_sub (pe_op op_mod (pe_un un_neg (pv 2)) (pe_op op_pow pe_int pe_int)) (pe_op op_pow pe_int pe_int)) pa_nil))))))) (pe_op op_mod (pe_op op_fdiv (pv 2) pe_int) pe_int) (fun _ _ => rfl)))
      (pss_cons (ps_if (PW.pt (pw_or (pt_not (pt_u (K := K) (pe_own O__law_refused (by decide) hr rfl (fun σ => L2N.passAt TK σ) (pa_cons pe_int (pa_cons pe_int (pa_cons (pe_ix (ix_u (K := K) hu) (pe_lst (pa_cons (pv 6) (pa_cons pe_int pa_nil))) (pe_op op_mod (pe_op op_fdiv (pv 2) pe_int) pe_int) (fun _ _ => rfl)) pa_nil)))))) (pw_or (pt_not (pt_u (K := K) (pe_own O__law_refused (by decide) hr rfl (fun σ => L2N.passAt TK σ) (pa_cons pe_int (pa_cons (pv 6) (pa_cons pe_int pa_nil)))))) (pw_or1 (pt_not (pt_u (K := K) (pe_own O__law_refused (by decide) hr rfl (fun σ => L2N.passAt TK σ) (pa_cons pe_int (pa_cons (pv 6) (pa_cons pe_int pa_nil))))))))))
      (pss_one (ps_ret pe_bl)) pss_nil)
      (pss_cons (ps_if (pt_not (pt_u (K := K) (pe_own O__law_refused (by decide) hr rfl (fun σ => L2N.passAt TK σ) (pa_cons pe_int (pa_cons (pv 1) (pa_cons (pe_ix (ix_u (K := K) hu) (pe_lst (pa_cons (pv 6) (pa_cons (pe_op (op_uadd (K := K)) (pv 1) pe_int) pa_nil))) (pe_op op_mod (pe_op op_fdiv (pv 2) pe_int) pe_int) (fun _ _ => rfl)) pa_nil))))))
      (pss_one (ps_ret pe_bl)) pss_nil)
      (pss_one (ps_ret (pe_own O__law_listed (by decide) hr rfl (fun σ => L2N.passAt TK σ) (pa_cons (pv 1) pa_nil))))))))))), ?_⟩
    clear nd
    obtain ⟨a, ns, rfl, hS, hl, q⟩ := h
    walk_at "vs"
    refine ⟨a, ns, 0, rfl, hS, hl, by omega, fun c0 => ?_⟩
    walk_at "vs"
    refine ⟨c0, rfl, fun n H1 n0 n1 c1 => ?_⟩
    walk_at "vs"
    refine ⟨a, ns, 1, rfl, c1.seqL hS, hl, by omega, fun c => ?_⟩
    walk_at "vs"
    have m0 := Int.emod_nonneg c (show n + 1 ≠ 0 by omega)
    have m1 := Int.emod_lt_of_pos c (show 0 < n + 1 by omega)
    refine v_newL (line9 (by show 4 ≤ 10000; decide)) fun b H2 nb c2 hb => ?_
    refine v_it_l (SqL.of hb) ?_
    refine v_for_list (xs := [.int (c % (n + 1)), .int n, .int (n / 2), .int (if n - c % 9 > 0 then n - c % 9 else 0)]) (fun i σ H' => ∃ v1 v2, σ = [some (.ref a), some (.int n), some (.int c), some (.int (c % (n + 1))), v1, v2, none] ∧ Chg [] H2 H') ⟨none, none, rfl, .refl⟩ (fun i σ H' _ hh => ?_) ?_ ?_
    · obtain ⟨_, _, _, c3⟩ := hh
      exact SqL.of (c3.at hb)
    · rintro i x σ H3 hx ⟨v1, v2, rfl, c3⟩
      obtain ⟨p, rfl, p0, p1⟩ : ∃ p, x = .int p ∧ 0 ≤ p ∧ p ≤ n := by
        have hx2 := List.mem_of_getElem? hx
        simp only [List.mem_cons, List.not_mem_nil, or_false] at hx2
        rcases hx2 with rfl | rfl | rfl | rfl
        · exact ⟨_, rfl, m0, by omega⟩
        · exact ⟨_, rfl, n0, by omega⟩
        · exact ⟨_, rfl, by omega, by omega⟩
        · exact ⟨_, rfl, by split <;> omega, by split <;> omega⟩
      walk_at "vs"
      refine ⟨.int n, .int p, rfl, rfl, rfl, fun n' p' hn hp' _ _ _ _ => ?_, fun z => absurd (okStep_no z) (by omega), fun n' hn _ z => absurd (okStep_no z) (by cases hn; omega)⟩
      cases hn
      cases hp'
      walk_at "vs"
      refine ⟨n, p, rfl, by omega, by omega, ?_⟩
      walk_at "vs"
      rw [beq_self_eq_true]
      walk_at "vs"
      refine v_iteD (fun h0 => ?_) (fun h0 => ?_)
      · walk_at "vs"
        refine ⟨.int p, rfl, rfl, fun _ i hi => ?_, fun z => absurd (okStep_no z) (by omega)⟩
        cases hi
        walk_at "vs"
        refine ⟨p, rfl, by omega, by omega, ?_⟩
        walk_at "vs"
        rw [decide_eq_true rfl]
        walk_at "vs"
        exact ⟨_, _, rfl, c3⟩
      · walk_at "vs"
        exact ⟨_, _, rfl, c3⟩
    · rintro σ H3 ⟨v1, v2, rfl, c3⟩
      walk_at "vs"
      refine v_newL (line9 (by show 6 ≤ 10000; decide)) fun a4 H4 n4 c4 h4 => ?_
      walk_at "vs"
      refine v_ix_lany (SqL.of h4) (by omega) (by show c / 7 % 6 < 6; omega) fun v hv => ?_
      obtain ⟨fv, hodd, hodd1⟩ : flatV v = true ∧ okStep v 0 1000000 = false ∧ okStep v 1 1000000 = false := by
        rcases (show c / 7 % 6 = 0 ∨ c / 7 % 6 = 1 ∨ c / 7 % 6 = 2 ∨ c / 7 % 6 = 3 ∨ c / 7 % 6 = 4 ∨ c / 7 % 6 = 5 by omega) with e | e | e | e | e | e
        all_goals rw [e] at hv; cases hv
        · exact ⟨rfl, by decide, by decide⟩
        · exact ⟨rfl, by decide, by decide⟩
        · exact ⟨rfl, by decide, by decide⟩
        · exact ⟨rfl, by decide, by decide⟩
        · exact ⟨rfl, by decide, by decide⟩
        · refine ⟨rfl, ?_, ?_⟩
          all_goals
            simp only [okStep, Bool.and_eq_false_iff, decide_eq_false_iff_not]
            left
            have := Int.emod_nonneg (-c) (show (1000000000 : Int) ≠ 0 by decide)
            have := Int.emod_lt_of_pos (-c) (show (0 : Int) < 1000000000 by decide)
            omega
      have hodd2 : okStep v 0 n = false := by
        cases v with
        | int i =>
          have := okStep_no hodd
          simp only [okStep, Bool.and_eq_false_iff, decide_eq_false_iff_not]
          omega
        | _ => rfl
      walk_at "vs"
      refine v_newL (line9 (by show 2 ≤ 10000; decide)) fun a5 H5 n5 c5 h5 => ?_
      walk_at "vs"
      refine v_ix_lany (SqL.of h5) (by omega) (by show c / 42 % 2 < 2; omega) fun v2 hv2 => ?_
      obtain ⟨fv2, hb2⟩ : flatV v2 = true ∧ okStep v2 1 1000000 = false := by
        rcases (show c / 42 % 2 = 0 ∨ c / 42 % 2 = 1 by omega) with e | e
        all_goals rw [e] at hv2; cases hv2
        · exact ⟨fv, hodd1⟩
        · exact ⟨rfl, by decide⟩
      walk_at "vs"
      refine ⟨0, .int 0, v2, rfl, rfl, fv2, .inl ⟨rfl, hb2⟩, fun H6 c6 => ?_⟩
      walk_at "vs"
      refine ⟨1, v, .int 0, rfl, fv, rfl, .inr (.inl ⟨rfl, .inl hodd⟩), fun H7 c7 => ?_⟩
      walk_at "vs"
      refine ⟨2, v, .int 0, rfl, fv, rfl, .inr (.inr ⟨rfl, hodd⟩), fun H8 c8 => ?_⟩
      walk_at "vs"
      refine v_newL (line9 (by show 2 ≤ 10000; decide)) fun a9 H9 n9 c9 h9 => ?_
      walk_at "vs"
      refine v_ix_lany (SqL.of h9) (by omega) (by show c / 42 % 2 < 2; omega) fun v3 hv3 => ?_
      obtain ⟨fv3, hb3⟩ : flatV v3 = true ∧ okStep v3 0 n = false := by
        rcases (show c / 42 % 2 = 0 ∨ c / 42 % 2 = 1 by omega) with e | e
        all_goals rw [e] at hv3; cases hv3
        · exact ⟨fv, hodd2⟩
        · exact ⟨rfl, by simp [okStep]; omega⟩
      walk_at "vs"
      refine ⟨1, .int n, v3, rfl, rfl, fv3, .inr (.inl ⟨rfl, .inr ⟨n, rfl, by simp [okStep]; omega, hb3⟩⟩), fun H10 c10 => ?_⟩
      walk_at "vs"
      refine ⟨n, rfl, n0, n1, fun H11 c11 => ?_⟩
      exact q H11
end
theorem all_mk {P : Program} {w : World} {K : PySem.W.Frag} {h : Heap} {mg : Str → Option Value} {fa : Addr} (X : K.In h) (G : h.Ns mainGlobals mg) (hfa : mg "law" = some (.ref fa))
    {F0 : Addr} {oc0 : Value} {od0 : Option Addr} {sl0 : Array (Option Value)} {kV0 dc0 pm0 : Value} {an0 : Option Addr} {cd0 ct0 : Value}
    {F1 : Addr} {oc1 : Value} {od1 : Option Addr} {sl1 : Array (Option Value)} {kV1 dc1 pm1 : Value} {an1 : Option Addr} {cd1 ct1 : Value}
    {F2 : Addr} {oc2 : Value} {od2 : Option Addr} {sl2 : Array (Option Value)} {kV2 dc2 pm2 : Value} {an2 : Option Addr} {cd2 ct2 : Value}
    {F3 : Addr} {oc3 : Value} {od3 : Option Addr} {sl3 : Array (Option Value)} {kV3 dc3 pm3 : Value} {an3 : Option Addr} {cd3 ct3 : Value}
    {F4 : Addr} {oc4 : Value} {od4 : Option Addr} {sl4 : Array (Option Value)} {kV4 dc4 pm4 : Value} {an4 : Option Addr} {cd4 ct4 : Value}
    {F5 : Addr} {oc5 : Value} {od5 : Option Addr} {sl5 : Array (Option Value)} {kV5 dc5 pm5 : Value} {an5 : Option Addr} {cd5 ct5 : Value}
    {F6 : Addr} {oc6 : Value} {od6 : Option Addr} {sl6 : Array (Option Value)} {kV6 dc6 pm6 : Value} {an6 : Option Addr} {cd6 ct6 : Value}
    {F7 : Addr} {oc7 : Value} {od7 : Option Addr} {sl7 : Array (Option Value)} {kV7 dc7 pm7 : Value} {an7 : Option Addr} {cd7 ct7 : Value}
    {F8 : Addr} {oc8 : Value} {od8 : Option Addr} {sl8 : Array (Option Value)} {kV8 dc8 pm8 : Value} {an8 : Option Addr} {cd8 ct8 : Value}
    {F9 : Addr} {oc9 : Value} {od9 : Option Addr} {sl9 : Array (Option Value)} {kV9 dc9 pm9 : Value} {an9 : Option Addr} {cd9 ct9 : Value}
    {F10 : Addr} {oc10 : Value} {od10 : Option Addr} {sl10 : Array (Option Value)} {kV10 dc10 pm10 : Value} {an10 : Option Addr} {cd10 ct10 : Value}
    {F11 : Addr} {oc11 : Value} {od11 : Option Addr} {sl11 : Array (Option Value)} {kV11 dc11 pm11 : Value} {an11 : Option Addr} {cd11 ct11 : Value}
    {F12 : Addr} {oc12 : Value} {od12 : Option Addr} {sl12 : Array (Option Value)} {kV12 dc12 pm12 : Value} {an12 : Option Addr} {cd12 ct12 : Value}
    {tc_GREATEST_STEP : Tok}
    {Cx_NoStep : Addr}
    {Cx_NoProgram : Addr}
    {Cx_NoRow : Addr}
    {Cx_TooLong : Addr}
    {Cx_NoWorld : Addr}
    {Cx_NoText : Addr}
    {Cx_NoCell : Addr}
    {Cx_NoDoor : Addr}
    {Cx_NoWord : Addr}
    {Cx_RunError : Addr}
    (a0 : PySem.W.nsIn K mainGlobals "need_step" = some (some (.ref F0)))
    (l0 : K.lookup F0 = some ⟨oc0, od0, .func (PySem.W.fnOf "need_step" "need_step" (defArgs s_need_step) (defBody s_need_step) (defScope s_need_step) .none kV0 dc0 pm0 an0 cd0 ct0), sl0⟩)
    (c0 : PySem.W.codeIn K cd0 "need_step" = true)
    (k0 : PySem.W.keepIn K (.ref F0) = true)
    (a1 : PySem.W.nsIn K mainGlobals "lowest_bit" = some (some (.ref F1)))
    (l1 : K.lookup F1 = some ⟨oc1, od1, .func (PySem.W.fnOf "lowest_bit" "lowest_bit" (defArgs s_lowest_bit) (defBody s_lowest_bit) (defScope s_lowest_bit) .none kV1 dc1 pm1 an1 cd1 ct1), sl1⟩)
    (c1 : PySem.W.codeIn K cd1 "lowest_bit" = true)
    (k1 : PySem.W.keepIn K (.ref F1) = true)
    (a2 : PySem.W.nsIn K mainGlobals "keeps" = some (some (.ref F2)))
    (l2 : K.lookup F2 = some ⟨oc2, od2, .func (PySem.W.fnOf "keeps" "keeps" (defArgs s_keeps) (defBody s_keeps) (defScope s_keeps) .none kV2 dc2 pm2 an2 cd2 ct2), sl2⟩)
    (c2 : PySem.W.codeIn K cd2 "keeps" = true)
    (k2 : PySem.W.keepIn K (.ref F2) = true)
    (a3 : PySem.W.nsIn K mainGlobals "kept_places" = some (some (.ref F3)))
    (l3 : K.lookup F3 = some ⟨oc3, od3, .func (PySem.W.fnOf "kept_places" "kept_places" (defArgs s_kept_places) (defBody s_kept_places) (defScope s_kept_places) .none kV3 dc3 pm3 an3 cd3 ct3), sl3⟩)
    (c3 : PySem.W.codeIn K cd3 "kept_places" = true)
    (k3 : PySem.W.keepIn K (.ref F3) = true)
    (a4 : PySem.W.nsIn K mainGlobals "_law_cell_at" = some (some (.ref F4)))
    (l4 : K.lookup F4 = some ⟨oc4, od4, .func (PySem.W.fnOf "_law_cell_at" "_law_cell_at" (defArgs s__law_cell_at) (defBody s__law_cell_at) (defScope s__law_cell_at) .none kV4 dc4 pm4 an4 cd4 ct4), sl4⟩)
    (c4 : PySem.W.codeIn K cd4 "_law_cell_at" = true)
    (k4 : PySem.W.keepIn K (.ref F4) = true)
    (a5 : PySem.W.nsIn K mainGlobals "_law_bit" = some (some (.ref F5)))
    (l5 : K.lookup F5 = some ⟨oc5, od5, .func (PySem.W.fnOf "_law_bit" "_law_bit" (defArgs s__law_bit) (defBody s__law_bit) (defScope s__law_bit) .none kV5 dc5 pm5 an5 cd5 ct5), sl5⟩)
    (c5 : PySem.W.codeIn K cd5 "_law_bit" = true)
    (k5 : PySem.W.keepIn K (.ref F5) = true)
    (a6 : PySem.W.nsIn K mainGlobals "_law_keeps" = some (some (.ref F6)))
    (l6 : K.lookup F6 = some ⟨oc6, od6, .func (PySem.W.fnOf "_law_keeps" "_law_keeps" (defArgs s__law_keeps) (defBody s__law_keeps) (defScope s__law_keeps) .none kV6 dc6 pm6 an6 cd6 ct6), sl6⟩)
    (c6 : PySem.W.codeIn K cd6 "_law_keeps" = true)
    (k6 : PySem.W.keepIn K (.ref F6) = true)
    (a7 : PySem.W.nsIn K mainGlobals "_law_alone" = some (some (.ref F7)))
    (l7 : K.lookup F7 = some ⟨oc7, od7, .func (PySem.W.fnOf "_law_alone" "_law_alone" (defArgs s__law_alone) (defBody s__law_alone) (defScope s__law_alone) .none kV7 dc7 pm7 an7 cd7 ct7), sl7⟩)
    (c7 : PySem.W.codeIn K cd7 "_law_alone" = true)
    (k7 : PySem.W.keepIn K (.ref F7) = true)
    (a8 : PySem.W.nsIn K mainGlobals "_law_refused" = some (some (.ref F8)))
    (l8 : K.lookup F8 = some ⟨oc8, od8, .func (PySem.W.fnOf "_law_refused" "_law_refused" (defArgs s__law_refused) (defBody s__law_refused) (defScope s__law_refused) .none kV8 dc8 pm8 an8 cd8 ct8), sl8⟩)
    (c8 : PySem.W.codeIn K cd8 "_law_refused" = true)
    (k8 : PySem.W.keepIn K (.ref F8) = true)
    (a9 : PySem.W.nsIn K mainGlobals "_law_farthest" = some (some (.ref F9)))
    (l9 : K.lookup F9 = some ⟨oc9, od9, .func (PySem.W.fnOf "_law_farthest" "_law_farthest" (defArgs s__law_farthest) (defBody s__law_farthest) (defScope s__law_farthest) .none kV9 dc9 pm9 an9 cd9 ct9), sl9⟩)
    (c9 : PySem.W.codeIn K cd9 "_law_farthest" = true)
    (k9 : PySem.W.keepIn K (.ref F9) = true)
    (a10 : PySem.W.nsIn K mainGlobals "_law_due" = some (some (.ref F10)))
    (l10 : K.lookup F10 = some ⟨oc10, od10, .func (PySem.W.fnOf "_law_due" "_law_due" (defArgs s__law_due) (defBody s__law_due) (defScope s__law_due) .none kV10 dc10 pm10 an10 cd10 ct10), sl10⟩)
    (c10 : PySem.W.codeIn K cd10 "_law_due" = true)
    (k10 : PySem.W.keepIn K (.ref F10) = true)
    (a11 : PySem.W.nsIn K mainGlobals "_law_listed" = some (some (.ref F11)))
    (l11 : K.lookup F11 = some ⟨oc11, od11, .func (PySem.W.fnOf "_law_listed" "_law_listed" (defArgs s__law_listed) (defBody s__law_listed) (defScope s__law_listed) .none kV11 dc11 pm11 an11 cd11 ct11), sl11⟩)
    (c11 : PySem.W.codeIn K cd11 "_law_listed" = true)
    (k11 : PySem.W.keepIn K (.ref F11) = true)
    (a12 : PySem.W.nsIn K mainGlobals "law" = some (some (.ref F12)))
    (l12 : K.lookup F12 = some ⟨oc12, od12, .func (PySem.W.fnOf "law" "law" (defArgs s_law) (defBody s_law) (defScope s_law) .none kV12 dc12 pm12 an12 cd12 ct12), sl12⟩)
    (c12 : PySem.W.codeIn K cd12 "law" = true)
    (k12 : PySem.W.keepIn K (.ref F12) = true)
    (n_isinstance : PySem.W.nsIn K mainGlobals "isinstance" = some none)
    (n_int : PySem.W.nsIn K mainGlobals "int" = some none)
    (n_bool : PySem.W.nsIn K mainGlobals "bool" = some none)
    (c_GREATEST_STEP : PySem.W.nsIn K mainGlobals "GREATEST_STEP" = some (some (.int 1000000 tc_GREATEST_STEP)))
    (n_range : PySem.W.nsIn K mainGlobals "range" = some none)
    (n_max : PySem.W.nsIn K mainGlobals "max" = some none)
    (n_sorted : PySem.W.nsIn K mainGlobals "sorted" = some none)
    (n_len : PySem.W.nsIn K mainGlobals "len" = some none)
    (n_ValueError : PySem.W.nsIn K mainGlobals "ValueError" = some none)
    (n_min : PySem.W.nsIn K mainGlobals "min" = some none)
    (n_list : PySem.W.nsIn K mainGlobals "list" = some none)
    (x_NoStepg : PySem.W.nsIn K mainGlobals "NoStep" = some (some (.ref Cx_NoStep)))
    (x_NoStepex : PySem.W.excIn K Cx_NoStep [.type "ValueError", .type "Exception", .type "BaseException", .type "object"] "ValueError.__new__" = true)
    (x_NoStepkp : PySem.W.keepIn K (.ref Cx_NoStep) = true)
    (x_NoStepsub : PySem.W.subIn K (.ref Cx_NoStep) (.type "BaseException") = some true)
    (x_NoStepty : PySem.W.typeIn K (.ref Cx_NoStep) = some (.type "type"))
    (x_NoStephg : PySem.W.findIn K (.ref Cx_NoStep) "__getattribute__" = some (some (.builtin "BaseException.__getattribute__")))
    (x_NoStephk : PySem.W.findIn K (.ref Cx_NoStep) "__getattr__" = some none)
    (x_NoStephd : PySem.W.hasDictIn K Cx_NoStep = true)
    (x_NoStepha : PySem.W.findIn K (.ref Cx_NoStep) "__class__" = some (some (.builtin "object.__class__")))
    (x_NoStephm : PySem.W.mroIn K Cx_NoStep (.type "object") = some true)
    (x_NoProgramg : PySem.W.nsIn K mainGlobals "NoProgram" = some (some (.ref Cx_NoProgram)))
    (x_NoProgramex : PySem.W.excIn K Cx_NoProgram [.type "ValueError", .type "Exception", .type "BaseException", .type "object"] "ValueError.__new__" = true)
    (x_NoProgramkp : PySem.W.keepIn K (.ref Cx_NoProgram) = true)
    (x_NoProgramsub : PySem.W.subIn K (.ref Cx_NoProgram) (.type "BaseException") = some true)
    (x_NoProgramty : PySem.W.typeIn K (.ref Cx_NoProgram) = some (.type "type"))
    (x_NoProgramhg : PySem.W.findIn K (.ref Cx_NoProgram) "__getattribute__" = some (some (.builtin "BaseException.__getattribute__")))
    (x_NoProgramhk : PySem.W.findIn K (.ref Cx_NoProgram) "__getattr__" = some none)
    (x_NoProgramhd : PySem.W.hasDictIn K Cx_NoProgram = true)
    (x_NoProgramha : PySem.W.findIn K (.ref Cx_NoProgram) "__class__" = some (some (.builtin "object.__class__")))
    (x_NoProgramhm : PySem.W.mroIn K Cx_NoProgram (.type "object") = some true)
    (x_NoRowg : PySem.W.nsIn K mainGlobals "NoRow" = some (some (.ref Cx_NoRow)))
    (x_NoRowex : PySem.W.excIn K Cx_NoRow [.type "ValueError", .type "Exception", .type "BaseException", .type "object"] "ValueError.__new__" = true)
    (x_NoRowkp : PySem.W.keepIn K (.ref Cx_NoRow) = true)
    (x_NoRowsub : PySem.W.subIn K (.ref Cx_NoRow) (.type "BaseException") = some true)
    (x_NoRowty : PySem.W.typeIn K (.ref Cx_NoRow) = some (.type "type"))
    (x_NoRowhg : PySem.W.findIn K (.ref Cx_NoRow) "__getattribute__" = some (some (.builtin "BaseException.__getattribute__")))
    (x_NoRowhk : PySem.W.findIn K (.ref Cx_NoRow) "__getattr__" = some none)
    (x_NoRowhd : PySem.W.hasDictIn K Cx_NoRow = true)
    (x_NoRowha : PySem.W.findIn K (.ref Cx_NoRow) "__class__" = some (some (.builtin "object.__class__")))
    (x_NoRowhm : PySem.W.mroIn K Cx_NoRow (.type "object") = some true)
    (x_TooLongg : PySem.W.nsIn K mainGlobals "TooLong" = some (some (.ref Cx_TooLong)))
    (x_TooLongex : PySem.W.excIn K Cx_TooLong [.type "ValueError", .type "Exception", .type "BaseException", .type "object"] "ValueError.__new__" = true)
    (x_TooLongkp : PySem.W.keepIn K (.ref Cx_TooLong) = true)
    (x_TooLongsub : PySem.W.subIn K (.ref Cx_TooLong) (.type "BaseException") = some true)
    (x_TooLongty : PySem.W.typeIn K (.ref Cx_TooLong) = some (.type "type"))
    (x_TooLonghg : PySem.W.findIn K (.ref Cx_TooLong) "__getattribute__" = some (some (.builtin "BaseException.__getattribute__")))
    (x_TooLonghk : PySem.W.findIn K (.ref Cx_TooLong) "__getattr__" = some none)
    (x_TooLonghd : PySem.W.hasDictIn K Cx_TooLong = true)
    (x_TooLongha : PySem.W.findIn K (.ref Cx_TooLong) "__class__" = some (some (.builtin "object.__class__")))
    (x_TooLonghm : PySem.W.mroIn K Cx_TooLong (.type "object") = some true)
    (x_NoWorldg : PySem.W.nsIn K mainGlobals "NoWorld" = some (some (.ref Cx_NoWorld)))
    (x_NoWorldex : PySem.W.excIn K Cx_NoWorld [.type "ValueError", .type "Exception", .type "BaseException", .type "object"] "ValueError.__new__" = true)
    (x_NoWorldkp : PySem.W.keepIn K (.ref Cx_NoWorld) = true)
    (x_NoWorldsub : PySem.W.subIn K (.ref Cx_NoWorld) (.type "BaseException") = some true)
    (x_NoWorldty : PySem.W.typeIn K (.ref Cx_NoWorld) = some (.type "type"))
    (x_NoWorldhg : PySem.W.findIn K (.ref Cx_NoWorld) "__getattribute__" = some (some (.builtin "BaseException.__getattribute__")))
    (x_NoWorldhk : PySem.W.findIn K (.ref Cx_NoWorld) "__getattr__" = some none)
    (x_NoWorldhd : PySem.W.hasDictIn K Cx_NoWorld = true)
    (x_NoWorldha : PySem.W.findIn K (.ref Cx_NoWorld) "__class__" = some (some (.builtin "object.__class__")))
    (x_NoWorldhm : PySem.W.mroIn K Cx_NoWorld (.type "object") = some true)
    (x_NoTextg : PySem.W.nsIn K mainGlobals "NoText" = some (some (.ref Cx_NoText)))
    (x_NoTextex : PySem.W.excIn K Cx_NoText [.type "ValueError", .type "Exception", .type "BaseException", .type "object"] "ValueError.__new__" = true)
    (x_NoTextkp : PySem.W.keepIn K (.ref Cx_NoText) = true)
    (x_NoTextsub : PySem.W.subIn K (.ref Cx_NoText) (.type "BaseException") = some true)
    (x_NoTextty : PySem.W.typeIn K (.ref Cx_NoText) = some (.type "type"))
    (x_NoTexthg : PySem.W.findIn K (.ref Cx_NoText) "__getattribute__" = some (some (.builtin "BaseException.__getattribute__")))
    (x_NoTexthk : PySem.W.findIn K (.ref Cx_NoText) "__getattr__" = some none)
    (x_NoTexthd : PySem.W.hasDictIn K Cx_NoText = true)
    (x_NoTextha : PySem.W.findIn K (.ref Cx_NoText) "__class__" = some (some (.builtin "object.__class__")))
    (x_NoTexthm : PySem.W.mroIn K Cx_NoText (.type "object") = some true)
    (x_NoCellg : PySem.W.nsIn K mainGlobals "NoCell" = some (some (.ref Cx_NoCell)))
    (x_NoCellex : PySem.W.excIn K Cx_NoCell [.type "ValueError", .type "Exception", .type "BaseException", .type "object"] "ValueError.__new__" = true)
    (x_NoCellkp : PySem.W.keepIn K (.ref Cx_NoCell) = true)
    (x_NoCellsub : PySem.W.subIn K (.ref Cx_NoCell) (.type "BaseException") = some true)
    (x_NoCellty : PySem.W.typeIn K (.ref Cx_NoCell) = some (.type "type"))
    (x_NoCellhg : PySem.W.findIn K (.ref Cx_NoCell) "__getattribute__" = some (some (.builtin "BaseException.__getattribute__")))
    (x_NoCellhk : PySem.W.findIn K (.ref Cx_NoCell) "__getattr__" = some none)
    (x_NoCellhd : PySem.W.hasDictIn K Cx_NoCell = true)
    (x_NoCellha : PySem.W.findIn K (.ref Cx_NoCell) "__class__" = some (some (.builtin "object.__class__")))
    (x_NoCellhm : PySem.W.mroIn K Cx_NoCell (.type "object") = some true)
    (x_NoDoorg : PySem.W.nsIn K mainGlobals "NoDoor" = some (some (.ref Cx_NoDoor)))
    (x_NoDoorex : PySem.W.excIn K Cx_NoDoor [.type "ValueError", .type "Exception", .type "BaseException", .type "object"] "ValueError.__new__" = true)
    (x_NoDoorkp : PySem.W.keepIn K (.ref Cx_NoDoor) = true)
    (x_NoDoorsub : PySem.W.subIn K (.ref Cx_NoDoor) (.type "BaseException") = some true)
    (x_NoDoorty : PySem.W.typeIn K (.ref Cx_NoDoor) = some (.type "type"))
    (x_NoDoorhg : PySem.W.findIn K (.ref Cx_NoDoor) "__getattribute__" = some (some (.builtin "BaseException.__getattribute__")))
    (x_NoDoorhk : PySem.W.findIn K (.ref Cx_NoDoor) "__getattr__" = some none)
    (x_NoDoorhd : PySem.W.hasDictIn K Cx_NoDoor = true)
    (x_NoDoorha : PySem.W.findIn K (.ref Cx_NoDoor) "__class__" = some (some (.builtin "object.__class__")))
    (x_NoDoorhm : PySem.W.mroIn K Cx_NoDoor (.type "object") = some true)
    (x_NoWordg : PySem.W.nsIn K mainGlobals "NoWord" = some (some (.ref Cx_NoWord)))
    (x_NoWordex : PySem.W.excIn K Cx_NoWord [.type "ValueError", .type "Exception", .type "BaseException", .type "object"] "ValueError.__new__" = true)
    (x_NoWordkp : PySem.W.keepIn K (.ref Cx_NoWord) = true)
    (x_NoWordsub : PySem.W.subIn K (.ref Cx_NoWord) (.type "BaseException") = some true)
    (x_NoWordty : PySem.W.typeIn K (.ref Cx_NoWord) = some (.type "type"))
    (x_NoWordhg : PySem.W.findIn K (.ref Cx_NoWord) "__getattribute__" = some (some (.builtin "BaseException.__getattribute__")))
    (x_NoWordhk : PySem.W.findIn K (.ref Cx_NoWord) "__getattr__" = some none)
    (x_NoWordhd : PySem.W.hasDictIn K Cx_NoWord = true)
    (x_NoWordha : PySem.W.findIn K (.ref Cx_NoWord) "__class__" = some (some (.builtin "object.__class__")))
    (x_NoWordhm : PySem.W.mroIn K Cx_NoWord (.type "object") = some true)
    (x_RunErrorg : PySem.W.nsIn K mainGlobals "RunError" = some (some (.ref Cx_RunError)))
    (x_RunErrorex : PySem.W.excIn K Cx_RunError [.type "ValueError", .type "Exception", .type "BaseException", .type "object"] "ValueError.__new__" = true)
    (x_RunErrorkp : PySem.W.keepIn K (.ref Cx_RunError) = true)
    (x_RunErrorsub : PySem.W.subIn K (.ref Cx_RunError) (.type "BaseException") = some true)
    (x_RunErrorty : PySem.W.typeIn K (.ref Cx_RunError) = some (.type "type"))
    (x_RunErrorhg : PySem.W.findIn K (.ref Cx_RunError) "__getattribute__" = some (some (.builtin "BaseException.__getattribute__")))
    (x_RunErrorhk : PySem.W.findIn K (.ref Cx_RunError) "__getattr__" = some none)
    (x_RunErrorhd : PySem.W.hasDictIn K Cx_RunError = true)
    (x_RunErrorha : PySem.W.findIn K (.ref Cx_RunError) "__class__" = some (some (.builtin "object.__class__")))
    (x_RunErrorhm : PySem.W.mroIn K Cx_RunError (.type "object") = some true)
    (xhn : PySem.W.specialIn K (.builtin "object.__class__") "__get__" = some (some (.builtin "getset_descriptor.__get__")))
    (xht : PySem.W.takesIn K (.builtin "object.__class__") = some true)
    (kit_NoStep__NoProgram : PySem.W.kitOne K (.ref Cx_NoStep) (.ref Cx_NoProgram) = some false)
    (kit_NoStep__NoRow : PySem.W.kitOne K (.ref Cx_NoStep) (.ref Cx_NoRow) = some false)
    (kit_NoStep__TooLong : PySem.W.kitOne K (.ref Cx_NoStep) (.ref Cx_TooLong) = some false)
    (kit_NoStep__NoWorld : PySem.W.kitOne K (.ref Cx_NoStep) (.ref Cx_NoWorld) = some false)
    (kit_NoStep__NoText : PySem.W.kitOne K (.ref Cx_NoStep) (.ref Cx_NoText) = some false)
    (kit_NoStep__NoStep : PySem.W.kitOne K (.ref Cx_NoStep) (.ref Cx_NoStep) = some true)
    (kit_NoStep__NoCell : PySem.W.kitOne K (.ref Cx_NoStep) (.ref Cx_NoCell) = some false)
    (kit_NoStep__NoDoor : PySem.W.kitOne K (.ref Cx_NoStep) (.ref Cx_NoDoor) = some false)
    (kit_NoStep__NoWord : PySem.W.kitOne K (.ref Cx_NoStep) (.ref Cx_NoWord) = some false)
    (kit_NoStep_T_ValueError : PySem.W.kitOne K (.ref Cx_NoStep) (.type "ValueError") = some true)
    (exm_NoStep__RunError : PySem.W.exmOne K (.ref Cx_NoStep) (.ref Cx_RunError) = some true)
    : ∃ fd : FuncData, (∀ (s : Shared) (u : Value), BindsTo s fd ⟨[u], []⟩ [("_law_script", u)]) ∧ ∀ base : Heap, K.In base → base.Ns mainGlobals mg → FnOk P w K mg base (L2N.CX P w) 5 fa fd ["_law_script"] (sp_law K) := by
  have T : Txt K mg := { n_isinstance := PySem.W.mg_none_of X G n_isinstance, n_int := PySem.W.mg_none_of X G n_int, n_bool := PySem.W.mg_none_of X G n_bool, c_GREATEST_STEP := ⟨_, PySem.W.mg_of X G c_GREATEST_STEP, ⟨_, rfl⟩⟩, n_range := PySem.W.mg_none_of X G n_range, n_max := PySem.W.mg_none_of X G n_max, n_sorted := PySem.W.mg_none_of X G n_sorted, n_len := PySem.W.mg_none_of X G n_len, n_ValueError := PySem.W.mg_none_of X G n_ValueError, n_min := PySem.W.mg_none_of X G n_min, n_list := PySem.W.mg_none_of X G n_list, x_NoStep := ⟨Cx_NoStep, PySem.W.mg_of X G x_NoStepg, x_NoStepex, x_NoStepkp, x_NoStepsub, x_NoStepty, ⟨x_NoStephg, x_NoStephk, x_NoStepsub, x_NoStephd, x_NoStepha, xhn, xht, x_NoStephm⟩⟩, x_NoProgram := ⟨Cx_NoProgram, PySem.W.mg_of X G x_NoProgramg, x_NoProgramex, x_NoProgramkp, x_NoProgramsub, x_NoProgramty, ⟨x_NoProgramhg, x_NoProgramhk, x_NoProgramsub, x_NoProgramhd, x_NoProgramha, xhn, xht, x_NoProgramhm⟩⟩, x_NoRow := ⟨Cx_NoRow, PySem.W.mg_of X G x_NoRowg, x_NoRowex, x_NoRowkp, x_NoRowsub, x_NoRowty, ⟨x_NoRowhg, x_NoRowhk, x_NoRowsub, x_NoRowhd, x_NoRowha, xhn, xht, x_NoRowhm⟩⟩, x_TooLong := ⟨Cx_TooLong, PySem.W.mg_of X G x_TooLongg, x_TooLongex, x_TooLongkp, x_TooLongsub, x_TooLongty, ⟨x_TooLonghg, x_TooLonghk, x_TooLongsub, x_TooLonghd, x_TooLongha, xhn, xht, x_TooLonghm⟩⟩, x_NoWorld := ⟨Cx_NoWorld, PySem.W.mg_of X G x_NoWorldg, x_NoWorldex, x_NoWorldkp, x_NoWorldsub, x_NoWorldty, ⟨x_NoWorldhg, x_NoWorldhk, x_NoWorldsub, x_NoWorldhd, x_NoWorldha, xhn, xht, x_NoWorldhm⟩⟩, x_NoText := ⟨Cx_NoText, PySem.W.mg_of X G x_NoTextg, x_NoTextex, x_NoTextkp, x_NoTextsub, x_NoTextty, ⟨x_NoTexthg, x_NoTexthk, x_NoTextsub, x_NoTexthd, x_NoTextha, xhn, xht, x_NoTexthm⟩⟩, x_NoCell := ⟨Cx_NoCell, PySem.W.mg_of X G x_NoCellg, x_NoCellex, x_NoCellkp, x_NoCellsub, x_NoCellty, ⟨x_NoCellhg, x_NoCellhk, x_NoCellsub, x_NoCellhd, x_NoCellha, xhn, xht, x_NoCellhm⟩⟩, x_NoDoor := ⟨Cx_NoDoor, PySem.W.mg_of X G x_NoDoorg, x_NoDoorex, x_NoDoorkp, x_NoDoorsub, x_NoDoorty, ⟨x_NoDoorhg, x_NoDoorhk, x_NoDoorsub, x_NoDoorhd, x_NoDoorha, xhn, xht, x_NoDoorhm⟩⟩, x_NoWord := ⟨Cx_NoWord, PySem.W.mg_of X G x_NoWordg, x_NoWordex, x_NoWordkp, x_NoWordsub, x_NoWordty, ⟨x_NoWordhg, x_NoWordhk, x_NoWordsub, x_NoWordhd, x_NoWordha, xhn, xht, x_NoWordhm⟩⟩, x_RunError := ⟨Cx_RunError, PySem.W.mg_of X G x_RunErrorg, x_RunErrorex, x_RunErrorkp, x_RunErrorsub, x_RunErrorty, ⟨x_RunErrorhg, x_RunErrorhk, x_RunErrorsub, x_RunErrorhd, x_RunErrorha, xhn, xht, x_RunErrorhm⟩⟩, kit_NoStep__NoProgram := kit_NoStep__NoProgram, kit_NoStep__NoRow := kit_NoStep__NoRow, kit_NoStep__TooLong := kit_NoStep__TooLong, kit_NoStep__NoWorld := kit_NoStep__NoWorld, kit_NoStep__NoText := kit_NoStep__NoText, kit_NoStep__NoStep := kit_NoStep__NoStep, kit_NoStep__NoCell := kit_NoStep__NoCell, kit_NoStep__NoDoor := kit_NoStep__NoDoor, kit_NoStep__NoWord := kit_NoStep__NoWord, kit_NoStep_T_ValueError := kit_NoStep_T_ValueError, exm_NoStep__RunError := exm_NoStep__RunError }
  have D_need_step : DefAt K mg "need_step" s_need_step := ⟨F0, _, PySem.W.mg_of X G a0, fun_mk l0 c0 k0⟩
  have D_lowest_bit : DefAt K mg "lowest_bit" s_lowest_bit := ⟨F1, _, PySem.W.mg_of X G a1, fun_mk l1 c1 k1⟩
  have D_keeps : DefAt K mg "keeps" s_keeps := ⟨F2, _, PySem.W.mg_of X G a2, fun_mk l2 c2 k2⟩
  have D_kept_places : DefAt K mg "kept_places" s_kept_places := ⟨F3, _, PySem.W.mg_of X G a3, fun_mk l3 c3 k3⟩
  have D__law_cell_at : DefAt K mg "_law_cell_at" s__law_cell_at := ⟨F4, _, PySem.W.mg_of X G a4, fun_mk l4 c4 k4⟩
  have D__law_bit : DefAt K mg "_law_bit" s__law_bit := ⟨F5, _, PySem.W.mg_of X G a5, fun_mk l5 c5 k5⟩
  have D__law_keeps : DefAt K mg "_law_keeps" s__law_keeps := ⟨F6, _, PySem.W.mg_of X G a6, fun_mk l6 c6 k6⟩
  have D__law_alone : DefAt K mg "_law_alone" s__law_alone := ⟨F7, _, PySem.W.mg_of X G a7, fun_mk l7 c7 k7⟩
  have D__law_refused : DefAt K mg "_law_refused" s__law_refused := ⟨F8, _, PySem.W.mg_of X G a8, fun_mk l8 c8 k8⟩
  have D__law_farthest : DefAt K mg "_law_farthest" s__law_farthest := ⟨F9, _, PySem.W.mg_of X G a9, fun_mk l9 c9 k9⟩
  have D__law_due : DefAt K mg "_law_due" s__law_due := ⟨F10, _, PySem.W.mg_of X G a10, fun_mk l10 c10 k10⟩
  have D__law_listed : DefAt K mg "_law_listed" s__law_listed := ⟨F11, _, PySem.W.mg_of X G a11, fun_mk l11 c11 k11⟩
  have D_law : DefAt K mg "law" s_law := ⟨F12, _, PySem.W.mg_of X G a12, fun_mk l12 c12 k12⟩
  refine law_F D_law bw_law (fun base _ _ => ?_) hfa
  have O_need_step : Own P w K mg base "need_step" 1 ["step", "least", "most"] (sp_need T.x_NoStep.C) := ok_need_step T D_need_step
  have O_lowest_bit : Own P w K mg base "lowest_bit" 2 ["step"] (sp_low T.x_NoStep.C) := ok_lowest_bit T D_lowest_bit O_need_step
  have O_keeps : Own P w K mg base "keeps" 3 ["farthest", "place"] (sp_keeps T.x_NoStep.C) := ok_keeps T D_keeps O_need_step O_lowest_bit
  have O_kept_places : Own P w K mg base "kept_places" 2 ["farthest"] (sp_kept T.x_NoStep.C) := ok_kept_places T D_kept_places O_need_step
  have O__law_cell_at : Own P w K mg base "_law_cell_at" 1 ["_law_script", "_law_k"] (sp_cell K) := ok__law_cell_at T D__law_cell_at
  have O__law_bit : Own P w K mg base "_law_bit" 1 ["_law_step"] (sp_bit) := ok__law_bit T D__law_bit
  have O__law_keeps : Own P w K mg base "_law_keeps" 2 ["_law_farthest_here", "_law_place"] (sp_lkeeps) := ok__law_keeps T D__law_keeps O__law_bit
  have O__law_alone : OwnP P w K mg base "_law_alone" 1 ["_law_e"] (sp_alone T.x_NoStep.C) := ok__law_alone T D__law_alone
  have O__law_refused : Own P w K mg base "_law_refused" 4 ["_law_way", "_law_farthest_here", "_law_place"] (sp_ref) := ok__law_refused T D__law_refused O_lowest_bit O_keeps O_kept_places O__law_alone
  have O__law_farthest : Own P w K mg base "_law_farthest" 1 ["_law_cell"] (sp_far) := ok__law_farthest T D__law_farthest
  have O__law_due : Own P w K mg base "_law_due" 3 ["_law_farthest_here"] (sp_due) := ok__law_due T D__law_due O__law_keeps
  have O__law_listed : Own P w K mg base "_law_listed" 4 ["_law_farthest_here"] (sp_listed) := ok__law_listed T D__law_listed O_kept_places O__law_keeps O__law_due
  exact ok_law T O__law_farthest O__law_cell_at O_keeps O__law_keeps O_lowest_bit O__law_bit O__law_refused O__law_listed
theorem walk {l : PySem.W.OpenLaw} {q : Program} {loose : List Str} {XP : (Str → Option Value) → Heap → Prop} {YP : World → Heap → Prop} {d : DefRec} {K : Params → PySem.W.Frag} (hn : l.most = some 63) (hdf : d.params.defaults = [])
    (hY : ∀ (w : World) (h : Heap), YP w h → (K w.params).In h)
    (F : ∀ (w : World) (mg : Str → Option Value) (fa : Addr) (h : Heap), (K w.params).In h → h.Ns mainGlobals mg → mg d.name = some (.ref fa) →
      ∃ fd : FuncData, (∀ (s : Shared) (u : Value), BindsTo s fd ⟨[u], []⟩ [("_law_script", u)]) ∧ ∀ base : Heap, (K w.params).In base → base.Ns mainGlobals mg → FnOk l.prog w (K w.params) mg base (L2N.CX l.prog w) 5 fa fd ["_law_script"] (sp_law (K w.params))) :
    PySem.W.WalkO q loose XP YP l.row.toRowW d [] (fun f vs => PySem.call f vs) :=
  L2.walk_of (n := 63) (k := 5) (x := "_law_script") (CX := fun w => L2N.CX l.prog w) (sp := fun w => (sp_law (K w.params))) hn (by decide) hdf ⟨rfl, by decide, by decide⟩ hY F
    (fun w H a ns hl hO hS => sp_law_start hl hO hS) fun _ _ _ _ _ z => noneN z
end Cl
open PySem PySem.W PyProof.Rows
set_option maxRecDepth 100000 in
set_option maxHeartbeats 0 in
theorem PySem.Challenge.cw_retrace_k33_places_kept_holds : PySem.Challenge.rw_retrace_k33_places_kept.Holds := by
  w_on; o_law; k_head; (case hw => w_witness2)
  k_fill
  refine Cl.walk (l := PySem.Challenge.rw_retrace_k33_places_kept) rfl rfl (fun w h Y => PySem.W.kIn_of Y) ?F
  case F =>
    intro w mg fa h KX G hmg
    refine' Cl.all_mk KX G hmg ?a0 ?l0 ?c0 ?k0 ?a1 ?l1 ?c1 ?k1 ?a2 ?l2 ?c2 ?k2 ?a3 ?l3 ?c3 ?k3 ?a4 ?l4 ?c4 ?k4 ?a5 ?l5 ?c5 ?k5 ?a6 ?l6 ?c6 ?k6 ?a7 ?l7 ?c7 ?k7 ?a8 ?l8 ?c8 ?k8 ?a9 ?l9 ?c9 ?k9 ?a10 ?l10 ?c10 ?k10 ?a11 ?l11 ?c11 ?k11 ?a12 ?l12 ?c12 ?k12 ?n_isinstance ?n_int ?n_bool ?c_GREATEST_STEP ?n_range ?n_max ?n_sorted ?n_len ?n_ValueError ?n_min ?n_list ?x_NoStepg ?x_NoStepex ?x_NoStepkp ?x_NoStepsub ?x_NoStepty ?x_NoStephg ?x_NoStephk ?x_NoStephd ?x_NoStepha ?x_NoStephm ?x_NoProgramg ?x_NoProgramex ?x_NoProgramkp ?x_NoProgramsub ?x_NoProgramty ?x_NoProgramhg ?x_NoProgramhk ?x_NoProgramhd ?x_NoProgramha ?x_NoProgramhm ?x_NoRowg ?x_NoRowex ?x_NoRowkp ?x_NoRowsub ?x_NoRowty ?x_NoRowhg ?x_NoRowhk ?x_NoRowhd ?x_NoRowha ?x_NoRowhm ?x_TooLongg ?x_TooLongex ?x_TooLongkp ?x_TooLongsub ?x_TooLongty ?x_TooLonghg ?x_TooLonghk ?x_TooLonghd ?x_TooLongha ?x_TooLonghm ?x_NoWorldg ?x_NoWorldex ?x_NoWorldkp ?x_NoWorldsub ?x_NoWorldty ?x_NoWorldhg ?x_NoWorldhk ?x_NoWorldhd ?x_NoWorldha ?x_NoWorldhm ?x_NoTextg ?x_NoTextex ?x_NoTextkp ?x_NoTextsub ?x_NoTextty ?x_NoTexthg ?x_NoTexthk ?x_NoTexthd ?x_NoTextha ?x_NoTexthm ?x_NoCellg ?x_NoCellex ?x_NoCellkp ?x_NoCellsub ?x_NoCellty ?x_NoCellhg ?x_NoCellhk ?x_NoCellhd ?x_NoCellha ?x_NoCellhm ?x_NoDoorg ?x_NoDoorex ?x_NoDoorkp ?x_NoDoorsub ?x_NoDoorty ?x_NoDoorhg ?x_NoDoorhk ?x_NoDoorhd ?x_NoDoorha ?x_NoDoorhm ?x_NoWordg ?x_NoWordex ?x_NoWordkp ?x_NoWordsub ?x_NoWordty ?x_NoWordhg ?x_NoWordhk ?x_NoWordhd ?x_NoWordha ?x_NoWordhm ?x_RunErrorg ?x_RunErrorex ?x_RunErrorkp ?x_RunErrorsub ?x_RunErrorty ?x_RunErrorhg ?x_RunErrorhk ?x_RunErrorhd ?x_RunErrorha ?x_RunErrorhm ?xhn ?xht ?kit_NoStep__NoProgram ?kit_NoStep__NoRow ?kit_NoStep__TooLong ?kit_NoStep__NoWorld ?kit_NoStep__NoText ?kit_NoStep__NoStep ?kit_NoStep__NoCell ?kit_NoStep__NoDoor ?kit_NoStep__NoWord ?kit_NoStep_T_ValueError ?exm_NoStep__RunError
    (case a0 => first | k_is | rfl)
    (case l0 => first | k_is | rfl)
    (case c0 => first | k_is | rfl)
    (case k0 => first | k_is | rfl)
    (case a1 => first | k_is | rfl)
    (case l1 => first | k_is | rfl)
    (case c1 => first | k_is | rfl)
    (case k1 => first | k_is | rfl)
    (case a2 => first | k_is | rfl)
    (case l2 => first | k_is | rfl)
    (case c2 => first | k_is | rfl)
    (case k2 => first | k_is | rfl)
    (case a3 => first | k_is | rfl)
    (case l3 => first | k_is | rfl)
    (case c3 => first | k_is | rfl)
    (case k3 => first | k_is | rfl)
    (case a4 => first | k_is | rfl)
    (case l4 => first | k_is | rfl)
    (case c4 => first | k_is | rfl)
    (case k4 => first | k_is | rfl)
    (case a5 => first | k_is | rfl)
    (case l5 => first | k_is | rfl)
    (case c5 => first | k_is | rfl)
    (case k5 => first | k_is | rfl)
    (case a6 => first | k_is | rfl)
    (case l6 => first | k_is | rfl)
    (case c6 => first | k_is | rfl)
    (case k6 => first | k_is | rfl)
    (case a7 => first | k_is | rfl)
    (case l7 => first | k_is | rfl)
    (case c7 => first | k_is | rfl)
    (case k7 => first | k_is | rfl)
    (case a8 => first | k_is | rfl)
    (case l8 => first | k_is | rfl)
    (case c8 => first | k_is | rfl)
    (case k8 => first | k_is | rfl)
    (case a9 => first | k_is | rfl)
    (case l9 => first | k_is | rfl)
    (case c9 => first | k_is | rfl)
    (case k9 => first | k_is | rfl)
    (case a10 => first | k_is | rfl)
    (case l10 => first | k_is | rfl)
    (case c10 => first | k_is | rfl)
    (case k10 => first | k_is | rfl)
    (case a11 => first | k_is | rfl)
    (case l11 => first | k_is | rfl)
    (case c11 => first | k_is | rfl)
    (case k11 => first | k_is | rfl)
    (case a12 => first | k_is | rfl)
    (case l12 => first | k_is | rfl)
    (case c12 => first | k_is | rfl)
    (case k12 => first | k_is | rfl)
    (case n_isinstance => first | k_is | rfl)
    (case n_int => first | k_is | rfl)
    (case n_bool => first | k_is | rfl)
    (case c_GREATEST_STEP => first | k_is | rfl)
    (case n_range => first | k_is | rfl)
    (case n_max => first | k_is | rfl)
    (case n_sorted => first | k_is | rfl)
    (case n_len => first | k_is | rfl)
    (case n_ValueError => first | k_is | rfl)
    (case n_min => first | k_is | rfl)
    (case n_list => first | k_is | rfl)
    (case x_NoStepg => first | k_is | rfl)
    (case x_NoStepex => k_exc)
    (case x_NoStepkp => first | k_is | rfl)
    (case x_NoStepsub => first | k_is | rfl)
    (case x_NoStepty => first | k_is | rfl)
    (case x_NoStephg => first | k_is | rfl)
    (case x_NoStephk => first | k_is | rfl)
    (case x_NoStephd => first | k_is | rfl)
    (case x_NoStepha => first | k_is | rfl)
    (case x_NoStephm => first | k_is | rfl)
    (case x_NoProgramg => first | k_is | rfl)
    (case x_NoProgramex => k_exc)
    (case x_NoProgramkp => first | k_is | rfl)
    (case x_NoProgramsub => first | k_is | rfl)
    (case x_NoProgramty => first | k_is | rfl)
    (case x_NoProgramhg => first | k_is | rfl)
    (case x_NoProgramhk => first | k_is | rfl)
    (case x_NoProgramhd => first | k_is | rfl)
    (case x_NoProgramha => first | k_is | rfl)
    (case x_NoProgramhm => first | k_is | rfl)
    (case x_NoRowg => first | k_is | rfl)
    (case x_NoRowex => k_exc)
    (case x_NoRowkp => first | k_is | rfl)
    (case x_NoRowsub => first | k_is | rfl)
    (case x_NoRowty => first | k_is | rfl)
    (case x_NoRowhg => first | k_is | rfl)
    (case x_NoRowhk => first | k_is | rfl)
    (case x_NoRowhd => first | k_is | rfl)
    (case x_NoRowha => first | k_is | rfl)
    (case x_NoRowhm => first | k_is | rfl)
    (case x_TooLongg => first | k_is | rfl)
    (case x_TooLongex => k_exc)
    (case x_TooLongkp => first | k_is | rfl)
    (case x_TooLongsub => first | k_is | rfl)
    (case x_TooLongty => first | k_is | rfl)
    (case x_TooLonghg => first | k_is | rfl)
    (case x_TooLonghk => first | k_is | rfl)
    (case x_TooLonghd => first | k_is | rfl)
    (case x_TooLongha => first | k_is | rfl)
    (case x_TooLonghm => first | k_is | rfl)
    (case x_NoWorldg => first | k_is | rfl)
    (case x_NoWorldex => k_exc)
    (case x_NoWorldkp => first | k_is | rfl)
    (case x_NoWorldsub => first | k_is | rfl)
    (case x_NoWorldty => first | k_is | rfl)
    (case x_NoWorldhg => first | k_is | rfl)
    (case x_NoWorldhk => first | k_is | rfl)
    (case x_NoWorldhd => first | k_is | rfl)
    (case x_NoWorldha => first | k_is | rfl)
    (case x_NoWorldhm => first | k_is | rfl)
    (case x_NoTextg => first | k_is | rfl)
    (case x_NoTextex => k_exc)
    (case x_NoTextkp => first | k_is | rfl)
    (case x_NoTextsub => first | k_is | rfl)
    (case x_NoTextty => first | k_is | rfl)
    (case x_NoTexthg => first | k_is | rfl)
    (case x_NoTexthk => first | k_is | rfl)
    (case x_NoTexthd => first | k_is | rfl)
    (case x_NoTextha => first | k_is | rfl)
    (case x_NoTexthm => first | k_is | rfl)
    (case x_NoCellg => first | k_is | rfl)
    (case x_NoCellex => k_exc)
    (case x_NoCellkp => first | k_is | rfl)
    (case x_NoCellsub => first | k_is | rfl)
    (case x_NoCellty => first | k_is | rfl)
    (case x_NoCellhg => first | k_is | rfl)
    (case x_NoCellhk => first | k_is | rfl)
    (case x_NoCellhd => first | k_is | rfl)
    (case x_NoCellha => first | k_is | rfl)
    (case x_NoCellhm => first | k_is | rfl)
    (case x_NoDoorg => first | k_is | rfl)
    (case x_NoDoorex => k_exc)
    (case x_NoDoorkp => first | k_is | rfl)
    (case x_NoDoorsub => first | k_is | rfl)
    (case x_NoDoorty => first | k_is | rfl)
    (case x_NoDoorhg => first | k_is | rfl)
    (case x_NoDoorhk => first | k_is | rfl)
    (case x_NoDoorhd => first | k_is | rfl)
    (case x_NoDoorha => first | k_is | rfl)
    (case x_NoDoorhm => first | k_is | rfl)
    (case x_NoWordg => first | k_is | rfl)
    (case x_NoWordex => k_exc)
    (case x_NoWordkp => first | k_is | rfl)
    (case x_NoWordsub => first | k_is | rfl)
    (case x_NoWordty => first | k_is | rfl)
    (case x_NoWordhg => first | k_is | rfl)
    (case x_NoWordhk => first | k_is | rfl)
    (case x_NoWordhd => first | k_is | rfl)
    (case x_NoWordha => first | k_is | rfl)
    (case x_NoWordhm => first | k_is | rfl)
    (case x_RunErrorg => first | k_is | rfl)
    (case x_RunErrorex => k_exc)
    (case x_RunErrorkp => first | k_is | rfl)
    (case x_RunErrorsub => first | k_is | rfl)
    (case x_RunErrorty => first | k_is | rfl)
    (case x_RunErrorhg => first | k_is | rfl)
    (case x_RunErrorhk => first | k_is | rfl)
    (case x_RunErrorhd => first | k_is | rfl)
    (case x_RunErrorha => first | k_is | rfl)
    (case x_RunErrorhm => first | k_is | rfl)
    (case xhn => first | k_is | rfl)
    (case xht => first | k_is | rfl)
    (case kit_NoStep__NoProgram => first | k_is | rfl)
    (case kit_NoStep__NoRow => first | k_is | rfl)
    (case kit_NoStep__TooLong => first | k_is | rfl)
    (case kit_NoStep__NoWorld => first | k_is | rfl)
    (case kit_NoStep__NoText => first | k_is | rfl)
    (case kit_NoStep__NoStep => first | k_is | rfl)
    (case kit_NoStep__NoCell => first | k_is | rfl)
    (case kit_NoStep__NoDoor => first | k_is | rfl)
    (case kit_NoStep__NoWord => first | k_is | rfl)
    (case kit_NoStep_T_ValueError => first | k_is | rfl)
    (case exm_NoStep__RunError => first | k_is | rfl)
