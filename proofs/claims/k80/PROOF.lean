import PyProof.Rows.All
import Wide.All
import OpenK.AllK
import Wide.FinOn
import HandS.ForMost
import HandS.ForExc
import HandS.ExcCtx
import HandS.HotCalls
import HandS.ExcIs
import HandS.IsInst
import HandS.Flow
import HandS.SetFor
import HandS.SortInts
import HandS.Conv
import HandS.WideBits
import HandS.TupAny
import HandS.TupMul
import HandS.TupSets
import HandS.Set
import HandS.Strs
import PyProof.Rows.SortStr
import HandS.Deep
import HandS.Text
import HandS.Flow
import HandS.RaiseMore
import HandS.ExcValue
import PyProof.FitsInt
import HandS.DictComp
import HandS.More
import KE.GoesEnum
import KE.GoesZip
import KE.GoesMore
import PySem.Challenge.RW_retrace_k80_words
set_option Elab.async false
set_option linter.all false
set_option maxRecDepth 100000
set_option maxHeartbeats 4000000
namespace RT
open PySem PySem.Spec PyProof.Rows L2 L2H
/-! ## 1. a def called while an error is held: its promise may speak of that error -/
abbrev SpP := Addr → Value → Option Addr → Sp
structure FnP (P : Program) (w : World) (K : PySem.W.Frag) (mg : Str → Option Value) (base : Heap) (CX : CXT)
    (k : Nat) (f : Addr) (fd : FuncData) (ps : List Str) (sp : SpP) : Prop where
  len : ∀ a c d vs H Q E, sp a c d vs H Q E → vs.length = ps.length
  run : ∀ (A : Around) (outer : List Env) (s : Shared) (H : Hp) (args : Args) (us : List Value) (vs : List V)
    (Q : VK) (E : XK) (e : Addr × Obj) (cls : Value) (d : Option Addr), RoomH k A → Hot1 A e → Zc cls d e.2 → PinOk outer H s e →
    Env0 P w K mg base A outer s H → BindsTo s fd args (ps.zip us) → Vals vs us → sp e.1 cls d vs H Q E →
    codeAny (model P w) A (.call (.ref f) args) (CR CX outer P w H s Q E) s
theorem fn_ofP {CX : CXT} {P : Program} {w : World} {K : PySem.W.Frag} {mg : Str → Option Value} {base : Heap} {k : Nat}
    {f : Addr} {name qual : Str} {params : Arguments} {body : List Stmt} {scope : Scope} {dV kV doc pm cdv ct oc : Value}
    {an od : Option Addr} {osl : Array (Option Value)} {N ps : List Str} {sp : SpP}
    (lk : K.lookup f = some ⟨oc, od, .func (PySem.W.fnOf name qual params body scope dV kV doc pm an cdv ct), osl⟩)
    (hcd : PySem.W.codeIn K cdv qual = true) (S : FnScope N ps scope)
    (len : ∀ a c d vs H Q E, sp a c d vs H Q E → vs.length = ps.length)
    (hbody : ∀ (A : Around) (outer : List Env) (s : Shared) (H : Hp) (vs : List V) (Q : VK) (E : XK) (e : Addr × Obj) (cls : Value) (d : Option Addr),
      Hot1 A e → Zc cls d e.2 → RoomH k (A.deeper (envOfC qual scope s.heap.objs.size f cdv)) → sp e.1 cls d vs H Q E →
      ∃ t, PSs (cxH CX P w K mg base N qual scope f cdv A outer s H E e) body t ∧
        t { nx := fun _ H' => Q .non H', rt := Q } (L2.start N vs) H) :
    FnP P w K mg base CX (k + 1) f (PySem.W.fnOf name qual params body scope dV kV doc pm an cdv ct) ps sp := by
  constructor
  · exact len
  · intro A outer s H args us vs Q E e cls d hr hot hz hpin e0 hb r hsp
    have hl := len _ _ _ _ _ _ _ hsp
    have KX : K.In s.heap := e0.mod.kin.keeps fun b o z => (e0.bs b o z).1
    have lim : s.heap.NoLimit := e0.mod.nolimit.keeps fun b o z => (e0.bs b o z).1
    refine codeAny_call_function hr.depth (KX _ _ lk) rfl S.co S.gen rfl (PySem.W.codeRec_of KX hcd)
      (hb _ _ _ _ ?_)
    refine wpAny_newFunctionEnv_cells S.kind (fun y hy => ?_) fun env he s1 x => ?_
    · obtain ⟨n, v⟩ := y
      rcases S.par n (List.of_mem_zip hy).1 with q | q
      · exact .inl q
      · exact .inr ⟨q, PySem.W.cellsFrom_some _ _ _ (.inl q)⟩
    subst he
    refine ⟨lim.keeps x.toInCall.keep, codeAny_func ?_⟩
    obtain ⟨t, ht, hq⟩ := hbody A outer s H vs Q E e cls d hot hz (hr.deeper _) hsp
    have I := inv_startH (CX := CX) (E := E) S hpin e0 hl r x
    refine wpAny_mono (ht.run [] s1 (L2.start N vs) H _ I hq) (fun fl s' hs => ?_) fun u s' hs => hs
    cases fl with
    | ret u =>
      obtain ⟨v, σ', H', J, rv, q⟩ := hs
      exact ⟨v, H', J.os, J.bare, J.base, J.hok, rv, q⟩
    | next =>
      obtain ⟨σ', H', J, q⟩ := hs
      exact ⟨.non, H', J.os, J.bare, J.base, J.hok, rfl, q⟩
    | brk => exact hs.elim fun _ z => z.elim fun _ z => z.2.elim
    | cont => exact hs.elim fun _ z => z.elim fun _ z => z.2.elim
/-- the suite's own held error, in the callee's eyes -/
theorem pe_callP {X : Cx} {CX : CXT} {k : Nat} {f : Addr} {fd : FuncData} {ps : List Str} {sp : SpP} {E : L2.St → XK}
    {x : Str} {q pos : Pos} {e : Expr} {es : List Expr} {t : TA} {p : Addr × Obj} {cls : Value} {d : Option Addr}
    (F : FnP X.prog X.w X.K X.mg X.base CX k f fd ps sp) (hr : RoomH k X.A) (hot : Hot1 X.A p) (hp : p ∈ X.pn) (hz : Zc cls d p.2)
    (hg : Gl X x) (hm : X.mg x = some (.ref f)) (hk : PySem.W.keepIn X.K (.ref f) = true) (hb : Binds X.K fd ps [])
    (hx : ∀ σ, PassesAt CX X σ (E σ)) (ha : PA X (e :: es) t) (hdb : (x == ("__debug__" : Str)) = false := by decide)
    (he : starEach (e :: es) X.env = (false, eval e X.env) :: starEach es X.env := by rfl)
    (hpl : (backTo pos (starEach es X.env)).any (·.1) = false := by rfl) :
    PE X (.Call (.Name x q) (e :: es) [] pos) (tCallS (sp p.1 cls d) E t) := by
  constructor
  intro pins s σ H Q I h
  refine wpAny_Call_Name_kw (ld_glob I hg hm ?_ hdb)
  refine PySem.W.callWith_K (h₀ := X.base) I.ok.mod.kin hk
    (thn (ha.run pos pins s σ H _ I h) fun us s1 ⟨vs, H1, I1, r, q1⟩ => ⟨I1.kIn, ?_⟩) he hpl
  have hl : us.length = ps.length := by rw [← r.length]; exact F.len _ _ _ _ _ _ _ q1
  have b := hb s1 us I1.kIn (by rw [List.append_nil]; exact hl)
  rw [List.append_nil] at b
  have P1 := I1.pin p (List.mem_append_left _ hp)
  have hpin : PinOk X.stack H1 s1 p := ⟨P1.1, P1.2.1, fun hm1 => by
    rcases List.mem_cons.mp (I1.stkSub p.1 hm1) with z | z
    · exact P1.2.2.1 z
    · exact P1.2.2.2.1 z, P1.2.2.2.2⟩
  refine wpAny_call (codeAny_mono (F.run X.A X.stack s1 H1 ⟨us, []⟩ us vs Q (E σ) p cls d hr hot hz hpin I1.env0 b r q1) fun rr s' hq => ?_)
  cases rr with
  | error u => exact hx σ pins H1 s1 u s' I1 hq
  | ok fl =>
    cases fl with
    | ret u => exact I1.after hq
    | next => exact hq.elim
    | brk => exact hq.elim
    | cont => exact hq.elim
/-- isinstance of an error that is pinned -/
def uIsE (K : PySem.W.Frag) (cls : Value) (d : Option Addr) (a : Addr) : List V → Hp → VK → Prop := fun xs H Q =>
  ∃ (D : Addr) (c : V) (cv : Value) (b : Bool), cls = .ref D ∧ d = none ∧ ExcC K D ∧ xs = [.ref a, c] ∧
    (∀ u, RelV c u → u = cv) ∧ PySem.W.kitOne K (.ref D) cv = some b ∧ Q (.bl b) H
theorem call_isP {X : Cx} {K : PySem.W.Frag} {e : Addr × Obj} {cls : Value} {d : Option Addr} (hp : e ∈ X.pn) (hz : Zc cls d e.2)
    (hf : ∃ vs, e.2.data = .fields vs) (hK : X.K = K := by rfl) : CallR X (.builtin "isinstance") (uIsE K cls d e.1) := by
  subst hK
  intro pins s σ H xs us Q I r h
  obtain ⟨D, c, cv, b, rfl, rfl, C, rfl, hcv, ek, q⟩ := h
  obtain ⟨u1, u2, rfl, r1, r2⟩ := Vals.two r
  obtain rfl := hcv _ r2
  obtain rfl : u1 = Value.ref e.1 := r1
  have hget := (I.pin e (List.mem_append_left _ hp)).1
  obtain ⟨vs, hv⟩ := hf
  have J : PySem.W.InstAt s.heap e.1 e.2 D none := by
    obtain ⟨a, oc, od, oda, osl⟩ := e
    obtain ⟨h1, h2⟩ := hz
    dsimp only at h1 h2 hv hget
    subst h1 h2 hv
    exact ⟨hget, rfl, rfl, trivial⟩
  refine PySem.W.kia_one (PySem.W.handS_kitx_exc C.hg C.hk C.hs C.hd C.ha C.hn C.ht C.hm) I.kIn J ek (fun z => nomatch z) fun tk => ?_
  exact ⟨.bl b, H, I.kept (t' := tk) fun _ _ z => z, rfl, q⟩
/-! ## 2. a def of the text: its body, errors may leave it -/
section
variable {P : Program} {w : World} {K : PySem.W.Frag} {mg : Str → Option Value} {base : Heap}
theorem okN {x qual : Str} {st : Stmt} {f : Addr} {fd : FuncData} {N ps : List Str} {k : Nat} {sp : Sp}
    (F : Fun K x qual st f fd) (S : FnScope N ps (defScope st)) (len : ∀ vs H Q E, sp vs H Q E → vs.length = ps.length)
    (hbody : ∀ (cdv : Value) (A : Around) (outer : List Env) (s : Shared) (H : Hp) (vs : List V) (Q : VK) (E : XK),
      Room k (A.deeper (envOfC qual (defScope st) s.heap.objs.size f cdv)) → sp vs H Q E →
      ∃ t, PSs (cxOf (L2N.CX P w) P w K mg base N qual (defScope st) f cdv A outer s H E) (defBody st) t ∧
        t ⟨fun _ H' => Q .non H', Q, fun _ _ => False, fun _ _ => False⟩ (L2.start N vs) H) :
    FnOk P w K mg base (L2N.CX P w) (k + 1) f fd ps sp := by
  obtain ⟨oc, od, kV, doc, pm, an, cdv, ct, osl, rfl, lk, hcd⟩ := F.ex
  exact fn_of lk hcd S len fun A outer s H vs Q E hr hsp => hbody cdv A outer s H vs Q E hr hsp
theorem okP {x qual : Str} {st : Stmt} {f : Addr} {fd : FuncData} {N ps : List Str} {k : Nat} {sp : SpP}
    (F : Fun K x qual st f fd) (S : FnScope N ps (defScope st)) (len : ∀ a c d vs H Q E, sp a c d vs H Q E → vs.length = ps.length)
    (hbody : ∀ (cdv : Value) (A : Around) (outer : List Env) (s : Shared) (H : Hp) (vs : List V) (Q : VK) (E : XK) (e : Addr × Obj) (cls : Value) (d : Option Addr),
      Hot1 A e → Zc cls d e.2 → RoomH k (A.deeper (envOfC qual (defScope st) s.heap.objs.size f cdv)) → sp e.1 cls d vs H Q E →
      ∃ t, PSs (cxH (L2N.CX P w) P w K mg base N qual (defScope st) f cdv A outer s H E e) (defBody st) t ∧
        t ⟨fun _ H' => Q .non H', Q, fun _ _ => False, fun _ _ => False⟩ (L2.start N vs) H) :
    FnP P w K mg base (L2N.CX P w) (k + 1) f fd ps sp := by
  obtain ⟨oc, od, kV, doc, pm, an, cdv, ct, osl, rfl, lk, hcd⟩ := F.ex
  exact fn_ofP lk hcd S len fun A outer s H vs Q E e cls d hot hz hr hsp => hbody cdv A outer s H vs Q E e cls d hot hz hr hsp
end
/-- nothing is let out -/
theorem passN {X : Cx} : ∀ σ, PassesAt (L2N.CX X.prog X.w) X σ ((fun _ => E0) σ) := by
  intro σ pins H s e s' I h
  obtain ⟨_, _, _, _, _, _, _, _, _, _, _, _, z⟩ := h
  exact z.elim
/-! ## 3. operators that take what comes -/
section
variable {X : Cx} {K : PySem.W.Frag}
def uCnt (K : PySem.W.Frag) : V → List V → Hp → VK → Prop := fun x vs H Q => ∃ (p : Addr) (xs : List V) (y : V),
  x = .ref p ∧ vs = [y] ∧ SqL K H p xs ∧ flatV y = true ∧ xs.all flatV = true ∧ Q (.int (xs.countP fun z => eqV z y : Nat)) H
theorem countP_eqU {x : V} : ∀ {xs : List V} {us : List Value}, Vals xs us → xs.all flatV = true →
    us.countP (eqU x) = xs.countP fun y => eqV y x
  | _, _, .nil, _ => rfl
  | y :: xs, u :: us, .cons r t, f => by
    rw [List.all_cons, Bool.and_eq_true] at f
    rw [List.countP_cons, List.countP_cons, eqU_of r f.1, countP_eqU t f.2]
theorem mt_cnt (hK : X.K = K := by rfl) : MtR X "list.count" (uCnt K) := by
  subst hK
  intro pins s σ H x xs v us Q I rx rxs h
  obtain ⟨p, ys, y, rfl, rfl, hs, fy, fs, q⟩ := h
  cases rx
  obtain ⟨u, rfl, ru⟩ := rxs.one
  obtain ⟨its, rv, ⟨⟨cls, dd, data, sl⟩, n, ho, hc, hdn, hd⟩, hlen⟩ := I.list hs
  simp only at hc hd
  subst hc hd
  refine call_meets PySem.F.slot_list_count ⟨_, ho, rfl⟩ PySem.F.entry_list_count (PySem.F.args_list_count_2 _ _)
    (SeqAt.list_countAt p its.toArray n dd sl u (eqU y))
    ⟨ho, fun z hz => mem_eqAt ru fy rv fs z (by simpa using hz), .int _, H, I.tok _, ⟨s.toks, ?_⟩, q⟩
  show Value.int ((its.countP (eqU y) : Nat) : Int) s.toks = _
  rw [countP_eqU rv fs]
end
end RT

namespace RT
open PySem PySem.Spec PyProof.Rows L2
/-! ## 11. sorted of tuples, by their things from the first on -/
def LexV : List V → List V → Option Bool
  | [], [] => some false
  | [], _ :: _ => some true
  | _ :: _, [] => some false
  | .int i :: xs, .int j :: ys => if i = j then LexV xs ys else some (decide (i < j))
  | .str i :: xs, .str j :: ys => if i = j then LexV xs ys else some (decide (i.cps.toList < j.cps.toList))
  | .ref a :: xs, .ref b :: ys => if a = b then LexV xs ys else none
  | _ :: _, _ :: _ => none
section
variable {prog : Program} {w : World} {A : Around} {E : Value → Shared → Prop} {s : Shared} {Q : Bool → Shared → Prop}
theorem oneLt_strs (c : Bool) {p q : Str} {t u : Tok} (h : Q (decide (p.cps.toList < q.cps.toList)) s) : wpAny (model prog w) A (oneLt' c (.str p t) (.str q u)) Q E s := by
  cases c with
  | true => exact oneLt_str h
  | false => exact PySem.W.kat_one _ _ (PyProof.Rows.lt_str (Q := PySem.W.BoolBack Q) h)
theorem lexV_at {b : Bool} : ∀ {xs ys : List V} {us ws : List Value} (i : Nat) {r fin : Bool}, Vals xs us → Vals ys ws → LexV xs ys = some r → fin = decide (us.length < ws.length) → Q r s → PySem.W.KatLex prog w A b fin Q (us.zip ws) i s
  | [], [], _, _, i, r, fin, .nil, .nil, h, hf, q => by
    cases h
    subst hf
    exact PySem.W.kat_nil q
  | [], _ :: _, _, _, i, r, fin, .nil, .cons _ _, h, hf, q => by
    cases h
    subst hf
    rw [List.zip_nil_left]
    refine PySem.W.kat_nil ?_
    rw [show decide (([] : List Value).length < _) = true from by simp]
    exact q
  | _ :: _, [], _, _, i, r, fin, .cons _ _, .nil, h, hf, q => by
    cases h
    subst hf
    rw [List.zip_nil_right]
    refine PySem.W.kat_nil ?_
    rw [show decide (_ < ([] : List Value).length) = false from by simp]
    exact q
  | x :: xs, y :: ys, u :: us, v :: ws, i, r, fin, .cons rx tx, .cons ry ty, h, hf, q => by
    have hf' : fin = decide (us.length < ws.length) := by rw [hf]; simp
    rw [List.zip_cons_cons]
    cases x <;> cases y
    case int.int p p' =>
      obtain ⟨t, rfl⟩ := rx
      obtain ⟨t', rfl⟩ := ry
      refine PySem.W.kat_cons (SeqAt.EqAt.int_int p t p' t' prog w _ _ ?_)
      simp only [LexV] at h
      refine PySem.W.kat_go (fun e => ?_) (fun e => ?_)
      · have : p = p' := by simpa using e
        rw [if_pos this] at h
        exact PySem.W.kat_yes (lexV_at (i + 1) tx ty h hf' q)
      · have : ¬ p = p' := by simpa using e
        rw [if_neg this] at h
        cases h
        exact PySem.W.kat_no (TS.oneLt_ints _ q)
    case str.str p p' =>
      obtain ⟨t, rfl⟩ := rx
      obtain ⟨t', rfl⟩ := ry
      refine PySem.W.kat_cons (SeqAt.EqAt.str_str p t p' t' prog w _ _ ?_)
      simp only [LexV] at h
      refine PySem.W.kat_go (fun e => ?_) (fun e => ?_)
      · have : p = p' := by simpa using e
        rw [if_pos this] at h
        exact PySem.W.kat_yes (lexV_at (i + 1) tx ty h hf' q)
      · have : ¬ p = p' := by simpa using e
        rw [if_neg this] at h
        cases h
        exact PySem.W.kat_no (oneLt_strs _ q)
    case ref.ref p p' =>
      obtain rfl : u = Value.ref p := rx
      obtain rfl : v = Value.ref p' := ry
      simp only [LexV] at h
      by_cases e : p = p'
      · subst e
        rw [if_pos rfl] at h
        refine PySem.W.kat_cons (SeqAt.EqAt.same _ prog w _ _ ?_)
        exact PySem.W.kat_yes (lexV_at (i + 1) tx ty h hf' q)
      · rw [if_neg e] at h
        cases h
    all_goals cases h
end
theorem swo_bk {lt : V → V → Bool} (O : SrtO.Swo lt) : SrtO.Swo fun v u : Value => lt (bkV v) (bkV u) :=
  ⟨fun x y => O.asym _ _, fun x y z => O.tr _ _ _⟩
/-- sorted of tuples of ints and texts (and of what is one and the same), by their things from the first on -/
def rSortC (K : PySem.W.Frag) : List V → Hp → VK → Prop := fun vs H Q => ∃ (a : Addr) (xs : List V) (k : V → List V) (lt : V → V → Bool), vs = [.ref a] ∧ SqL K H a xs ∧ (∀ x ∈ xs, ∃ t, x = .ref t ∧ SqT K H t (k x)) ∧
  ((∀ x ∈ xs, ∃ z r, k x = .str z :: r) ∨ (∀ x ∈ xs, ∃ z r, k x = .int z :: r)) ∧ SrtO.Swo lt ∧ (∀ x ∈ xs, ∀ y ∈ xs, LexV (k x) (k y) = some (lt x y)) ∧
  ∀ ys p, SrtO.Srtd lt ys → ys.Perm xs → H p = none → Q (.ref p) (upd H p (.lst ys))
def TupAt (h : Heap) (v : Value) (zs : List V) : Prop := ∃ (a : Addr) (its : List Value), v = .ref a ∧ Vals zs its ∧ IsTup h a its.toArray
theorem TupAt.keeps {h h' : Heap} {v : Value} {zs : List V} (p : TupAt h v zs) (k : ∀ b o, h.get? b = some o → o.cls = .type "tuple" → h'.get? b = some o) : TupAt h' v zs := by
  obtain ⟨a, its, rfl, r, o, ho, hc, n, hd⟩ := p
  exact ⟨a, its, rfl, r, o, k a o ho hc, hc, n, hd⟩
theorem firstsC {h : Heap} {f : V → Prop} : ∀ {vs : List Value} {k : Value → List V}, (∀ v ∈ vs, TupAt h v (k v) ∧ ∃ z r, f z ∧ k v = z :: r) →
    ∃ fs : List Value, PySem.W.KatTups h vs fs ∧ fs.length = vs.length ∧ ∀ u ∈ fs, ∃ z, f z ∧ RelV z u
  | [], _, _ => ⟨[], PySem.W.KatTups.nil, rfl, fun _ hm => by simp at hm⟩
  | v :: vs, k, hp => by
    obtain ⟨fs, h1, h2, h3⟩ := firstsC (vs := vs) (k := k) fun v' hm => hp v' (List.mem_cons_of_mem _ hm)
    obtain ⟨⟨a, its, e, r, o, ho, hc, n, hd⟩, z, zs, hz, ek⟩ := hp v (List.mem_cons_self ..)
    subst e
    rw [ek] at r
    cases r with
    | @cons _ u _ us r0 rs =>
      refine ⟨u :: fs, PySem.W.KatTups.cons ho hc hd rfl h1, by rw [List.length_cons, List.length_cons, h2], fun x hm => ?_⟩
      rcases List.mem_cons.mp hm with rfl | hm
      · exact ⟨z, hz, r0⟩
      · exact h3 x hm
theorem cr_sortedC {X : Cx} {K : PySem.W.Frag} (hK : X.K = K := by rfl) : CallR X (.builtin "sorted") (rSortC K) := by
  subst hK
  intro pins s σ H vs us Q I r h
  obtain ⟨a, xs, k, lt, rfl, hs, hx, hf, O, hlt, q⟩ := h
  obtain ⟨its, rv, hl, hz⟩ := I.list hs
  rw [Vals.ref1 r]
  obtain ⟨e1, e2⟩ := bkV_refs rv fun x m => by
    obtain ⟨t, e, _⟩ := hx x m
    exact ⟨t, e⟩
  have hmem : ∀ v ∈ its, bkV v ∈ xs := fun v hv => by rw [e1]; exact List.mem_map.mpr ⟨_, hv, rfl⟩
  have hT : ∀ v ∈ its, TupAt s.heap v (k (bkV v)) := fun v hv => by
    obtain ⟨t, rfl⟩ := e2 v hv
    obtain ⟨t', et, ht⟩ := hx _ (hmem _ hv)
    have et' : t = t' := by
      have : (V.ref t : V) = V.ref t' := et
      injection this
    subst et'
    obtain ⟨ts, rt, p, _⟩ := I.tuple ht
    exact ⟨t, ts, rfl, rt, p⟩
  refine SrtO.sorted_ord (swo_bk O) hl.isList (by rw [← rv.length]; exact hz) (fun h2 h₁ a' ha kk => ?_) fun out h1 h2 => ?_
  · intro h' keep
    have keep2 : ∀ b o, s.heap.get? b = some o → o.cls = .type "tuple" → h'.get? b = some o := fun b o e c => by
      have := kk b o e
      exact keep b o this.1 this.2
    have hT' : ∀ v ∈ its, TupAt h' v (k (bkV v)) := fun v hv => (hT v hv).keeps keep2
    have hc : SrtO.Cmp X.prog X.w X.A.in1.in1 { s with heap := h' } (tuples' true) (fun p => p.1 ∈ its) (SrtO.lt2 fun v u : Value => lt (bkV v) (bkV u)) := by
      intro p q hp hq
      obtain ⟨t, ts, et, rt, o, ho, hc, n, hd⟩ := hT' _ hp
      obtain ⟨t2, ts2, et2, rt2, o2, ho2, hc2, n2, hd2⟩ := hT' _ hq
      have hl := hlt _ (hmem _ hp) _ (hmem _ hq)
      show wpAny _ _ (keyLt' (tuples' true) p.1 q.1) (fun r s' => s' = _ ∧ r = lt (bkV p.1) (bkV q.1)) (fun _ _ => False) _
      generalize lt (bkV p.1) (bkV q.1) = b at hl
      rw [et, et2]
      refine PySem.W.kat_lt ho hd ho2 hd2 ?_
      exact lexV_at 0 rt rt2 hl (by simp) ⟨rfl, rfl⟩
    refine ⟨tuples' true, fun Q' E' hq => ?_, hc⟩
    rcases hf with hf | hf
    · obtain ⟨fs, g1, g2, g3⟩ := firstsC (f := fun z => ∃ y, z = .str y) (k := fun v => k (bkV v)) fun v hv => ⟨hT' v hv, by
        obtain ⟨z, r, e⟩ := hf _ (hmem _ hv)
        exact ⟨_, _, ⟨z, rfl⟩, e⟩⟩
      refine PySem.W.kat_kind (T := .type "str") g1 (by omega) (fun f hm => ?_) (by rfl) ?_
      · obtain ⟨z, ⟨y, rfl⟩, t, rfl⟩ := g3 f hm
        exact PySem.W.Looks.now
      · have e : (Value.type "str" != Value.type "tuple") = true := by first | decide +kernel | rfl | decide
        rw [e]
        exact hq
    · obtain ⟨fs, g1, g2, g3⟩ := firstsC (f := fun z => ∃ y, z = .int y) (k := fun v => k (bkV v)) fun v hv => ⟨hT' v hv, by
        obtain ⟨z, r, e⟩ := hf _ (hmem _ hv)
        exact ⟨_, _, ⟨z, rfl⟩, e⟩⟩
      refine PySem.W.kat_kind (T := .type "int") g1 (by omega) (fun f hm => ?_) (by rfl) ?_
      · obtain ⟨z, ⟨y, rfl⟩, t, rfl⟩ := g3 f hm
        exact PySem.W.Looks.now
      · have e : (Value.type "int" != Value.type "tuple") = true := by first | decide +kernel | rfl | decide
        rw [e]
        exact hq
  · obtain ⟨ep, he'⟩ := PyProof.Rows.sortedAll_at s.heap its out.toArray
    have hp : (out.map bkV).Perm xs := by
      rw [e1]
      exact h2.perm.map bkV
    have h3 : ∀ u ∈ out, ∃ a, u = Value.ref a := fun u hu => e2 u (h2.perm.mem_iff.mp hu)
    have hlen : (out.map bkV).length ≤ sizeLine := by
      rw [hp.length_eq]
      exact hz
    refine ⟨.ref _, upd H (s.heap.objs.size + 1) (.lst (out.map bkV)), I.laid (t' := s.toks) (fun _ _ => PyProof.Rows.sortedAll_old) (Nat.le_succ _) ⟨hlen, out, ep, bkV_vals h3, he'⟩, rfl, q _ _ ?_ hp (I.hok.fresh (Nat.le_succ _))⟩
    exact List.pairwise_map.mpr h1
/-! keys: ints and texts -/
def keyLt : Key → Key → Bool
  | .inl i, .inl j => decide (i < j)
  | .inl _, .inr _ => true
  | .inr _, .inl _ => false
  | .inr x, .inr y => decide (x.cps.toList < y.cps.toList)
def lexK : List Key → List Key → Bool
  | [], [] => false
  | [], _ :: _ => true
  | _ :: _, [] => false
  | x :: xs, y :: ys => if x = y then lexK xs ys else keyLt x y
/-- where they differ first stand things of one kind -/
def likeK : List Key → List Key → Bool
  | .inl i :: xs, .inl j :: ys => if i = j then likeK xs ys else true
  | .inr i :: xs, .inr j :: ys => if i = j then likeK xs ys else true
  | _ :: _, _ :: _ => false
  | _, _ => true
theorem lexV_keys : ∀ {ks ls : List Key}, likeK ks ls = true → LexV (ks.map kV) (ls.map kV) = some (lexK ks ls)
  | [], [], _ => rfl
  | [], _ :: _, _ => rfl
  | _ :: _, [], _ => by rename_i x xs _; cases x <;> rfl
  | .inl i :: xs, .inl j :: ys, h => by
    by_cases e : i = j
    · subst e
      have h' : likeK xs ys = true := by simpa [likeK] using h
      simp [LexV, lexK, kV, lexV_keys h']
    · simp [LexV, lexK, kV, keyLt, e]
  | .inr i :: xs, .inr j :: ys, h => by
    by_cases e : i = j
    · subst e
      have h' : likeK xs ys = true := by simpa [likeK] using h
      simp [LexV, lexK, kV, lexV_keys h']
    · simp [LexV, lexK, kV, keyLt, e]
  | .inl i :: xs, .inr j :: ys, h => by simp [likeK] at h
  | .inr i :: xs, .inl j :: ys, h => by simp [likeK] at h
theorem str_lt_tri {x y : Str} (h : x ≠ y) : x.cps.toList < y.cps.toList ∨ y.cps.toList < x.cps.toList := by
  have h' : x.cps.toList ≠ y.cps.toList := fun e => h (by cases x; cases y; simp only [Str.mk.injEq]; exact Array.toList_inj.mp e)
  rcases Nat.lt_or_ge 0 1 with _ | _
  · rcases Classical.em (x.cps.toList < y.cps.toList) with c | c
    · exact .inl c
    · rcases Classical.em (y.cps.toList < x.cps.toList) with d | d
      · exact .inr d
      · exact absurd (List.le_antisymm (List.not_lt.mp d) (List.not_lt.mp c)) h'
  · omega
theorem keyLt_irrefl (x : Key) : keyLt x x = false := by
  cases x with
  | inl i => simp [keyLt]
  | inr z => simp [keyLt, List.lt_irrefl]
theorem keyLt_tri {x y : Key} (h : x ≠ y) : keyLt x y = true ∨ keyLt y x = true := by
  cases x <;> cases y
  · rename_i i j
    have : i ≠ j := fun e => h (by rw [e])
    simp only [keyLt, decide_eq_true_eq]; omega
  · exact .inl rfl
  · exact .inr rfl
  · rename_i i j
    have : i ≠ j := fun e => h (by rw [e])
    simp only [keyLt, decide_eq_true_eq]; exact str_lt_tri this
theorem keyLt_trans {x y z : Key} (h1 : keyLt x y = true) (h2 : keyLt y z = true) : keyLt x z = true := by
  cases x <;> cases y <;> cases z <;> simp_all only [keyLt, decide_eq_true_eq] <;> first | omega | exact List.lt_trans h1 h2 | cases h1 | cases h2
theorem keyLt_asym {x y : Key} (h1 : keyLt x y = true) : keyLt y x = false := by
  cases h : keyLt y x with
  | false => rfl
  | true => have := keyLt_trans h1 h; rw [keyLt_irrefl] at this; cases this
theorem lexK_irrefl : ∀ ks : List Key, lexK ks ks = false
  | [] => rfl
  | x :: xs => by simp [lexK, lexK_irrefl xs]
theorem lexK_tri : ∀ {ks ls : List Key}, ks ≠ ls → lexK ks ls = true ∨ lexK ls ks = true
  | [], [], h => absurd rfl h
  | [], _ :: _, _ => .inl rfl
  | _ :: _, [], _ => .inr rfl
  | x :: xs, y :: ys, h => by
    by_cases e : x = y
    · subst e
      have : xs ≠ ys := fun z => h (by rw [z])
      simpa [lexK] using lexK_tri this
    · have e' : ¬ y = x := fun z => e z.symm
      simpa [lexK, e, e'] using keyLt_tri e
theorem lexK_trans : ∀ {ks ls ms : List Key}, lexK ks ls = true → lexK ls ms = true → lexK ks ms = true
  | [], [], _, h, _ => by cases h
  | _ :: _, [], _, h, _ => by cases h
  | _, _ :: _, [], _, h => by cases h
  | [], _ :: _, _ :: _, _, _ => rfl
  | x :: xs, y :: ys, z :: zs, h1, h2 => by
    simp only [lexK] at h1 h2 ⊢
    by_cases e1 : x = y
    · subst e1
      rw [if_pos rfl] at h1
      by_cases e2 : x = z
      · subst e2
        rw [if_pos rfl] at h2 ⊢
        exact lexK_trans h1 h2
      · rw [if_neg e2] at h2 ⊢
        exact h2
    · rw [if_neg e1] at h1
      by_cases e2 : y = z
      · subst e2
        rw [if_neg e1]
        exact h1
      · rw [if_neg e2] at h2
        have h3 := keyLt_trans h1 h2
        by_cases e3 : x = z
        · subst e3; rw [keyLt_irrefl] at h3; cases h3
        · rw [if_neg e3]; exact h3
theorem lexK_asym {ks ls : List Key} (h : lexK ks ls = true) : lexK ls ks = false := by
  cases h' : lexK ls ks with
  | false => rfl
  | true => have := lexK_trans h h'; rw [lexK_irrefl] at this; cases this
theorem swo_lexK {α : Type} (f : α → List Key) : SrtO.Swo fun x y => lexK (f x) (f y) := by
  refine ⟨fun x y h => lexK_asym h, fun x y z h1 h2 => ?_⟩
  cases h : lexK (f z) (f x) with
  | false => rfl
  | true =>
    by_cases e : f x = f y
    · rw [e] at h; rw [h] at h2; cases h2
    · rcases lexK_tri e with c | c
      · rw [lexK_trans h c] at h2; cases h2
      · rw [c] at h1; cases h1
end RT

/-! ## 13. dicts with keys that are tuples: == -/
namespace PySem.W
open PySem PySem.Calls PyProof.Rows PySem.Spec
section
variable {prog : Program} {w : World} {K : Type} [DecidableEq K] {knd : HeapKind prog w K} {A : Around} {E : Value → Shared → Prop} {s : Shared}
theorem rt_samePairs {nm : String} {a b : Addr} {ka kb : List (K × Addr × Value)} {Q : Bool → Shared → Prop} (ha : (a == sysModules) = false) (hb : (b == sysModules) = false) (hu : knd.room A)
    (da : s.heap.DictOfH knd a ka) (db : s.heap.DictOfH knd b kb) (hl : ka.length = kb.length) (hits : ∀ x ∈ ka, ∃ p, atKey kb x.1 = some p ∧ SeqAt.EqAt A s x.2.2 p.2 true) (h : Q true s) :
    wpAny (model prog w) A (Builtin.Dict.samePairs nm a b) Q E s := by
  obtain ⟨oa, es, ep, hoa, _, hda, hka, hia, hna⟩ := da
  obtain ⟨ob, es', ep', hob, _, hdb, hkb, hib, hnb⟩ := db
  have hla : es.size = ka.length := size_of_entries hka
  have hlb : es'.size = kb.length := size_of_entries hkb
  unfold Builtin.Dict.samePairs Builtin.Dict.showsAll
  rw [if_neg (show ¬ (a == sysModules) = true by rw [ha]; exact Bool.false_ne_true), if_neg (show ¬ (b == sysModules) = true by rw [hb]; exact Bool.false_ne_true)]
  refine wpAny_bind (wpAny_pure (wpAny_bind (wpAny_pure ?_)))
  refine wpAny_bind (wpAny_dictEntries hoa hda ?_)
  dsimp only
  refine wpAny_bind (wpAny_dictEntries hob hdb ?_)
  have hsz : es.size = es'.size := by omega
  rw [if_neg (by rw [hsz]; simp)]
  refine wpAny_bind (wpAny_dictEpoch hoa hda ?_)
  refine wpAny_bind ?_
  rw [Std.Legacy.Range.forIn_eq_forIn_range']
  simp only [Std.Legacy.Range.size, Nat.sub_zero, Nat.add_sub_cancel, Nat.div_one]
  refine wpAny_forIn_list _
    (fun rest q s' => s' = s ∧ q = (none, ()) ∧ ∃ i, rest = List.range' i (es.size - i) ∧ i ≤ es.size)
    _ ?_ ?_ _ _ ⟨rfl, rfl, 0, by simp, Nat.zero_le _⟩
  · rintro x rest q s' ⟨rfl, rfl, i, hr, hi⟩
    have hlt : i < es.size := by
      rcases Nat.lt_or_ge i es.size with h | h
      · exact h
      · rw [Nat.sub_eq_zero_of_le h] at hr; simp at hr
    obtain ⟨rfl, hrest⟩ : x = i ∧ rest = List.range' (i + 1) (es.size - (i + 1)) := by
      have e : es.size - i = (es.size - (i + 1)) + 1 := by omega
      rw [e, List.range'_succ] at hr
      injection hr with h1 h2
      exact ⟨h1, h2⟩
    refine wpAny_bind (wpAny_dictEntries hoa hda ?_)
    have hlt' : x < ka.length := by rw [← hla]; exact hlt
    rw [entry_at hka x, List.getElem?_eq_getElem hlt']
    obtain ⟨k, c, v, hkv⟩ : ∃ k c v, ka[x] = (k, c, v) := ⟨_, _, _, rfl⟩
    rw [hkv]
    have hmem : (k, c, v) ∈ ka := by rw [← hkv]; exact List.getElem_mem hlt'
    have hkey := hia _ hmem
    obtain ⟨p, hp, he⟩ := hits _ hmem
    show wpAny _ _ (holding [.ref c, v] _ >>= _) _ _ _
    refine wpAny_bind (wpAny_holding (wpAny_bind (wpAny_dictFind_heap hu hkey hob hdb hkb hib hnb (fun hno => ?_) (fun j p' hj => ?_))))
    · rw [atKey_none_of_get hno] at hp
      cases hp
    · have hp' := atKey_of_get hnb hj
      have ep' : p' = p := Option.some.inj (hp'.symm.trans hp)
      subst ep'
      refine wpAny_bind (wpAny_dictEntries hob hdb ?_)
      rw [entry_at hkb j, hj]
      refine wpAny_holding (he prog w _ _ ?_)
      show wpAny _ _ (if (!true) = true then _ else _) _ _ _
      rw [if_neg (by decide)]
      refine wpAny_bind (wpAny_dictEpoch hoa hda ?_)
      rw [if_neg (by simp)]
      exact wpAny_pure ⟨rfl, rfl, x + 1, hrest, hlt⟩
  · rintro q s' ⟨rfl, rfl, i, hr, hi⟩
    exact wpAny_pure h
theorem rt_eqH {a b : Addr} {ka kb : List (K × Addr × Value)} {Q : Value → Shared → Prop} (ha : (a == sysModules) = false) (hb : (b == sysModules) = false) (hr : knd.room A.in1)
    (da : s.heap.DictOfH knd a ka) (db : s.heap.DictOfH knd b kb) (hu : A.units < cLine) (hl : ka.length = kb.length) (hits : ∀ x ∈ ka, ∃ p, atKey kb x.1 = some p ∧ SeqAt.EqAt A.in1 s x.2.2 p.2 true) (h : Q (.bool true) s) :
    wpAny (model prog w) A (compareOp .Eq (.ref a) (.ref b)) Q E s := by
  refine wpAny_richCompare_same_room (op := .Eq) da.typeIs db.typeIs PySem.F.slot_dict_eq (wpAny_call_entry PySem.F.slot_dict_eq da.typeIs PySem.F.entry_dict_eq ?_ (PySem.F.args_dict_eq_2 _ _)) hu
  show wpAny _ _ (Builtin.Dict.dictSlotArgs "__eq__" ⟨[.ref a, .ref b], []⟩ >>= _) _ _ s
  refine wpAny_bind ?_
  unfold Builtin.Dict.dictSlotArgs
  refine wpAny_bind (wpAny_notOrdered_dict da.typeIs ?_)
  show wpAny _ _ (pure (Value.ref a, Value.ref b)) _ _ s
  refine wpAny_pure ?_
  refine wpAny_bind (wpAny_isInstance (T := "dict") db.typeIs PySem.F.sub_dict_dict ?_)
  simp only [Bool.not_true, Bool.false_eq_true, if_false]
  refine wpAny_bind (wpAny_pure (wpAny_bind (wpAny_pure ?_)))
  refine wpAny_bind (rt_samePairs ha hb hr da db hl hits ?_)
  refine wpAny_pure ⟨_, rfl, ?_, ?_⟩
  · exact fun x => nomatch x
  · simpa using h
theorem rt_neH {a b : Addr} {ka kb : List (K × Addr × Value)} {Q : Value → Shared → Prop} (ha : (a == sysModules) = false) (hb : (b == sysModules) = false) (hr : knd.room A.in1)
    (da : s.heap.DictOfH knd a ka) (db : s.heap.DictOfH knd b kb) (hu : A.units < cLine) (hl : ka.length = kb.length) (hits : ∀ x ∈ ka, ∃ p, atKey kb x.1 = some p ∧ SeqAt.EqAt A.in1 s x.2.2 p.2 true) (h : Q (.bool false) s) :
    wpAny (model prog w) A (compareOp .NotEq (.ref a) (.ref b)) Q E s := by
  refine wpAny_richCompare_same_room (op := .NotEq) da.typeIs db.typeIs PySem.F.slot_dict_ne (wpAny_call_entry PySem.F.slot_dict_ne da.typeIs PySem.F.entry_dict_ne ?_ (PySem.F.args_dict_ne_2 _ _)) hu
  show wpAny _ _ (Builtin.Dict.dictSlotArgs "__ne__" ⟨[.ref a, .ref b], []⟩ >>= _) _ _ s
  refine wpAny_bind ?_
  unfold Builtin.Dict.dictSlotArgs
  refine wpAny_bind (wpAny_notOrdered_dict da.typeIs ?_)
  show wpAny _ _ (pure (Value.ref a, Value.ref b)) _ _ s
  refine wpAny_pure ?_
  refine wpAny_bind (wpAny_isInstance (T := "dict") db.typeIs PySem.F.sub_dict_dict ?_)
  simp only [Bool.not_true, Bool.false_eq_true, if_false]
  refine wpAny_bind (wpAny_pure (wpAny_bind (wpAny_pure ?_)))
  refine wpAny_bind (rt_samePairs ha hb hr da db hl hits ?_)
  refine wpAny_pure ⟨_, rfl, ?_, ?_⟩
  · exact fun x => nomatch x
  · simpa using h
end
end PySem.W
namespace RT
open PySem PySem.Spec PyProof.Rows L2
def rEqT (neg : Bool) : R2 := fun x y H Q => ∃ a b ks ls, x = .ref a ∧ y = .ref b ∧ H a = some (.dT ks) ∧ H b = some (.dT ls) ∧ ks.length = ls.length ∧ (∀ p ∈ ks, valV ls p.1 = some p.2 ∧ flatB p.2 = true) ∧ Q (.bl (!neg)) H
theorem hitsT {A : Around} {s : Shared} {H : Hp} {ks ls : List (List Key × V)} {ya yb : List (List Key × Addr × Value)} (rb : L2.KT H ls yb) (ra : L2.KT H ks ya) :
    (∀ p ∈ ks, valV ls p.1 = some p.2 ∧ flatB p.2 = true) → ∀ x ∈ ya, ∃ p, atKey yb x.1 = some p ∧ SeqAt.EqAt A s x.2.2 p.2 true := by
  unfold L2.KT at ra
  induction ra with
  | nil => intro _ x hx; cases hx
  | @cons p q ps qs h t ih =>
    intro hp x hx
    obtain ⟨h1, _, h2⟩ := h
    rcases List.mem_cons.mp hx with rfl | hx
    · obtain ⟨e, f⟩ := hp p List.mem_cons_self
      have rr : RelO (some p.2) ((atKey yb p.1).map (·.2)) := by rw [← e]; exact rb.val p.1
      obtain ⟨y, hy, ry⟩ := rr.some_of
      obtain ⟨p', hp', e'⟩ := Option.map_eq_some_iff.mp hy
      rw [← h1]
      refine ⟨p', hp', ?_⟩
      rw [e']
      exact eqAt_same h2 ry f
    · exact ih (fun p' hm => hp p' (List.mem_cons_of_mem _ hm)) x hx
theorem KTlen {H : Hp} {ks : List (List Key × V)} {ya : List (List Key × Addr × Value)} (ra : L2.KT H ks ya) : ks.length = ya.length := Paired.length ra
theorem op_eqT {X : Cx} (hu : X.A.units + 1 < cLine) : OpR X (compareOp .Eq) (rEqT false) := by
  intro pins s σ H x y v u Q I rx ry h
  obtain ⟨a, b, ks, ls, rfl, rfl, ea, eb, hlen, hp, q⟩ := h
  obtain rfl : v = Value.ref a := rx
  obtain rfl : u = Value.ref b := ry
  obtain ⟨_, za, ya, ra, da⟩ := dt_of I.hok ea
  obtain ⟨_, zb, yb, rb, db⟩ := dt_of I.hok eb
  exact PySem.W.rt_eqH za zb (tupleKind_room_in1 hu) da db (by omega) (by rw [← KTlen ra, ← KTlen rb]; exact hlen) (hitsT rb ra hp) (fin_bl I q rfl)
theorem op_neT {X : Cx} (hu : X.A.units + 1 < cLine) : OpR X (compareOp .NotEq) (rEqT true) := by
  intro pins s σ H x y v u Q I rx ry h
  obtain ⟨a, b, ks, ls, rfl, rfl, ea, eb, hlen, hp, q⟩ := h
  obtain rfl : v = Value.ref a := rx
  obtain rfl : u = Value.ref b := ry
  obtain ⟨_, za, ya, ra, da⟩ := dt_of I.hok ea
  obtain ⟨_, zb, yb, rb, db⟩ := dt_of I.hok eb
  exact PySem.W.rt_neH za zb (tupleKind_room_in1 hu) da db (by omega) (by rw [← KTlen ra, ← KTlen rb]; exact hlen) (hitsT rb ra hp) (fin_bl I q rfl)
end RT

namespace RT
open PySem PySem.Spec PyProof.Rows L2
/-! ## 4. defs of the text, by name, with their promises -/
structure DefAt (K : PySem.W.Frag) (mg : Str → Option Value) (x : Str) (st : Stmt) : Prop where
  ex : ∃ f fd, mg x = some (.ref f) ∧ Fun K x x st f fd
structure Own (P : Program) (w : World) (K : PySem.W.Frag) (mg : Str → Option Value) (base : Heap) (x : Str) (k : Nat) (ps : List Str) (sp : Sp) : Prop where
  ex : ∃ f fd, mg x = some (.ref f) ∧ PySem.W.keepIn K (.ref f) = true ∧ Binds K fd ps [] ∧ FnOk P w K mg base (L2N.CX P w) k f fd ps sp
structure OwnP (P : Program) (w : World) (K : PySem.W.Frag) (mg : Str → Option Value) (base : Heap) (x : Str) (k : Nat) (ps : List Str) (sp : SpP) : Prop where
  ex : ∃ f fd, mg x = some (.ref f) ∧ PySem.W.keepIn K (.ref f) = true ∧ Binds K fd ps [] ∧ FnP P w K mg base (L2N.CX P w) k f fd ps sp
section
variable {P : Program} {w : World} {K : PySem.W.Frag} {mg : Str → Option Value} {base : Heap}
abbrev BindW (st : Stmt) (x : Str) (ps : List Str) : Prop := ∀ (kV doc pm : Value) (an : Option Addr) (cdv ct : Value) (us : List Value),
  us.length = ps.length → bindArgs (PySem.W.fnOf x x (defArgs st) (defBody st) (defScope st) .none kV doc pm an cdv ct) ⟨us, []⟩ = pure (ps.zip us)
def FnW (P : Program) (w : World) (K : PySem.W.Frag) (mg : Str → Option Value) (base : Heap) (x : Str) (st : Stmt) (k : Nat) (ps : List Str) (sp : Sp) : Prop :=
  ∀ f fd, Fun K x x st f fd → FnOk P w K mg base (L2N.CX P w) k f fd ps sp
theorem fnW_of {x : Str} {st : Stmt} {N ps : List Str} {k : Nat} {sp : Sp}
    (S : FnScope N ps (defScope st)) (len : ∀ vs H Q E, sp vs H Q E → vs.length = ps.length)
    (hbody : ∀ (f : Addr) (cdv : Value) (A : Around) (outer : List Env) (s : Shared) (H : Hp) (vs : List V) (Q : VK) (E : XK),
      Room k (A.deeper (envOfC x (defScope st) s.heap.objs.size f cdv)) → sp vs H Q E →
      ∃ t, PSs (cxOf (L2N.CX P w) P w K mg base N x (defScope st) f cdv A outer s H E) (defBody st) t ∧
        t ⟨fun _ H' => Q .non H', Q, fun _ _ => False, fun _ _ => False⟩ (L2.start N vs) H) :
    FnW P w K mg base x st (k + 1) ps sp := fun f fd F => okN F S len (hbody f)
theorem own_of {x : Str} {st : Stmt} {ps : List Str} {k : Nat} {sp : Sp} (D : DefAt K mg x st) (hb : BindW st x ps)
    (h : FnW P w K mg base x st k ps sp) : Own P w K mg base x k ps sp := by
  obtain ⟨f, fd, hm, F⟩ := D.ex
  exact ⟨f, fd, hm, F.kp, F.binds hb, h f fd F⟩
theorem law_F {st : Stmt} {x : Str} {k : Nat} {sp : Sp} {fa : Addr} (D : DefAt K mg "law" st) (hb : BindW st "law" [x])
    (h : ∀ base : Heap, K.In base → base.Ns mainGlobals mg → FnW P w K mg base "law" st k [x] sp) (hfa : mg "law" = some (.ref fa)) :
    ∃ fd : FuncData, (∀ (s : Shared) (u : Value), BindsTo s fd ⟨[u], []⟩ [(x, u)]) ∧
      ∀ base : Heap, K.In base → base.Ns mainGlobals mg → FnOk P w K mg base (L2N.CX P w) k fa fd [x] sp := by
  obtain ⟨f, fd, hm, F⟩ := D.ex
  have e := hfa.symm.trans hm
  cases e
  refine ⟨fd, fun s u => ?_, fun base h1 h2 => h base h1 h2 _ _ F⟩
  obtain ⟨oc, od, kV, doc, pm, an, cdv, ct, osl, rfl, lk, hcd⟩ := F.ex
  exact .of_eq (hb kV doc pm an cdv ct [u] rfl)
theorem noneN {P : Program} {w : World} {H : Hp} {s : Shared} {e : Value} {s' : Shared} (h : L2N.CX P w [] H s (fun _ _ _ => False) e s') : False := by
  obtain ⟨_, _, _, _, _, _, _, _, _, _, _, _, z⟩ := h
  exact z
theorem ownP_of {x : Str} {st : Stmt} {N ps : List Str} {k : Nat} {sp : SpP} (D : DefAt K mg x st) (hb : BindW st x ps)
    (S : FnScope N ps (defScope st)) (len : ∀ a c d vs H Q E, sp a c d vs H Q E → vs.length = ps.length)
    (hbody : ∀ (f : Addr) (cdv : Value) (A : Around) (outer : List Env) (s : Shared) (H : Hp) (vs : List V) (Q : VK) (E : XK) (e : Addr × Obj) (cls : Value) (d : Option Addr),
      L2H.Hot1 A e → Zc cls d e.2 → L2H.RoomH k (A.deeper (envOfC x (defScope st) s.heap.objs.size f cdv)) → sp e.1 cls d vs H Q E →
      ∃ t, PSs (L2H.cxH (L2N.CX P w) P w K mg base N x (defScope st) f cdv A outer s H E e) (defBody st) t ∧
        t ⟨fun _ H' => Q .non H', Q, fun _ _ => False, fun _ _ => False⟩ (L2.start N vs) H) :
    OwnP P w K mg base x (k + 1) ps sp := by
  obtain ⟨f, fd, hm, F⟩ := D.ex
  exact ⟨f, fd, hm, F.kp, F.binds hb, okP F S len (hbody f)⟩
end
section
variable {X : Cx} {j k : Nat} {ps : List Str} {sp : Sp} {E : L2.St → XK} {x : Str} {p pos : Pos} {e : Expr} {es : List Expr} {t : TA}
theorem pe_own (O : Own X.prog X.w X.K X.mg X.base x j ps sp) (hj : j ≤ k) (hr : Room k X.A) (hg : Gl X x)
    (hx : ∀ σ, PassesAt (L2N.CX X.prog X.w) X σ (E σ)) (ha : PA X (e :: es) t) (hdb : (x == ("__debug__" : Str)) = false := by decide)
    (he : starEach (e :: es) X.env = (false, eval e X.env) :: starEach es X.env := by rfl)
    (hpl : (backTo pos (starEach es X.env)).any (·.1) = false := by rfl) : PE X (.Call (.Name x p) (e :: es) [] pos) (tCallS sp E t) := by
  obtain ⟨f, fd, hm, hk, hb, F⟩ := O.ex
  exact pe_callS F (hr.mono hj) hg hm hk hb hx ha hdb he hpl
theorem pe_ownP {sp : SpP} {q : Addr × Obj} {cls : Value} {d : Option Addr} (O : OwnP X.prog X.w X.K X.mg X.base x j ps sp) (hj : j ≤ k) (hr : L2H.RoomH k X.A)
    (hot : L2H.Hot1 X.A q) (hp : q ∈ X.pn) (hz : Zc cls d q.2) (hg : Gl X x)
    (hx : ∀ σ, PassesAt (L2N.CX X.prog X.w) X σ (E σ)) (ha : PA X (e :: es) t) (hdb : (x == ("__debug__" : Str)) = false := by decide)
    (he : starEach (e :: es) X.env = (false, eval e X.env) :: starEach es X.env := by rfl)
    (hpl : (backTo pos (starEach es X.env)).any (·.1) = false := by rfl) : PE X (.Call (.Name x p) (e :: es) [] pos) (tCallS (sp q.1 cls d) E t) := by
  obtain ⟨f, fd, hm, hk, hb, F⟩ := O.ex
  exact pe_callP F (hr.mono hj) hot hp hz hg hm hk hb hx ha hdb he hpl
/-- a def without arguments -/
theorem pe_own0 (O : Own X.prog X.w X.K X.mg X.base x j ps sp) (hj : j ≤ k) (hr : Room k X.A) (hg : Gl X x)
    (hx : Passes (L2N.CX X.prog X.w) X E0) (hdb : (x == ("__debug__" : Str)) = false := by decide) : PE X (.Call (.Name x p) [] [] pos) (tCall sp [] E0 tNil) := by
  obtain ⟨f, fd, hm, hk, hb, F⟩ := O.ex
  exact pe_call0 F (hr.mono hj) hg hm hk hb .nil hx hdb
end
/-! ## 5. operators and looks that take what comes -/
def uAdd (K : PySem.W.Frag) : R2 := fun x y H Q =>
  (rI0 (fun i j => .int (i + j)) x y H Q ∨ ∃ i j, x = .str i ∧ y = .str j ∧ i.length + j.length ≤ sizeLine ∧ Q (.str (i ++ j)) H) ∨
  (rCat x y H Q ∨ rCatA K x y H Q)
def uMul : R2 := fun x y H Q => rI CMul (fun i j => .int (i * j)) x y H Q ∨ rRep x y H Q
def uEq (K : PySem.W.Frag) : R2 := fun x y H Q => (rEq x y H Q ∨ rEqD K x y H Q) ∨ (rEqDA x y H Q ∨ rEqT false x y H Q)
def uNe (K : PySem.W.Frag) : R2 := fun x y H Q => (rNe x y H Q ∨ rNeD K x y H Q) ∨ (rNeDA x y H Q ∨ rEqT true x y H Q)
def rIxD : R2 := fun x y H Q => ∃ a v, x = .ref a ∧ DGet H a y (some v) ∧ Q v H
def uIx (K : PySem.W.Frag) : R2 := fun x y H Q => rIx K x y H Q ∨ rIxD x y H Q
def rSetD : V → V → V → Hp → (Hp → Prop) → Prop := fun o i v H Q => ∃ a H', o = .ref a ∧ DPut H a i v H' ∧ Q H'
def uSet : V → V → V → Hp → (Hp → Prop) → Prop := fun o i v H Q => rSetL o i v H Q ∨ rSetD o i v H Q
def uSl (K : PySem.W.Frag) : V → Option Int → Option Int → Hp → VK → Prop := fun x lo hi H Q => rSlL K x lo hi H Q ∨ rSlA K x lo hi H Q
def uLen (K : PySem.W.Frag) : List V → Hp → VK → Prop := fun xs H Q =>
  ((∃ p ys, xs = [.ref p] ∧ (SqL K H p ys ∨ SqT K H p ys) ∧ Q (.int ys.length) H) ∨ ∃ z, xs = [.str z] ∧ z.length ≤ sizeLine ∧ Q (.int z.length) H) ∨
    ∃ a kvs, xs = [V.ref a] ∧ H a = some (.dK kvs) ∧ Q (.int kvs.length) H
def ItV (K : PySem.W.Frag) (x : V) (H1 : Hp) (R : It → Hp → Prop) : Prop :=
  (∃ a, x = .ref a ∧ (∃ xs, SqL K H1 a xs) ∧ R (Itl K a) H1) ∨ (∃ a, x = .ref a ∧ (∃ xs, SqT K H1 a xs) ∧ R (Itt K a) H1) ∨ ∃ z, x = .str z ∧ R (Its z) H1
def uIt (K : PySem.W.Frag) (tl : TE) : TI := fun σ H R => tl σ H fun x H1 => ItV K x H1 R
section
variable {X : Cx} {K : PySem.W.Frag} {a b : Expr} {ta tb : TE} {pos : Pos}
theorem op_uadd (hK : X.K = K := by rfl) : OpR X (binaryOp .Add) (uAdd K) := by
  subst hK
  exact OpR.or (OpR.or op_add op_add_str) (OpR.or op_cat op_catA)
theorem op_umul : OpR X (binaryOp .Mult) uMul := OpR.or op_mul op_rep
theorem op_ueq {k : Nat} (hr : L2H.RoomH k X.A) (hK : X.K = K := by rfl) : OpR X (compareOp .Eq) (uEq K) := by
  subst hK
  exact OpR.or (OpR.or op_eq (op_eqD (by have := hr.un; omega))) (OpR.or (op_eq_dictA (by have := hr.un; omega)) (op_eqT (by have := hr.un; omega)))
theorem op_une {k : Nat} (hr : L2H.RoomH k X.A) (hK : X.K = K := by rfl) : OpR X (compareOp .NotEq) (uNe K) := by
  subst hK
  exact OpR.or (OpR.or op_ne (op_neD (by have := hr.un; omega))) (OpR.or (op_ne_dictA (by have := hr.un; omega)) (op_neT (by have := hr.un; omega)))
theorem ix_dict (hu : X.A.units + 1 < cLine) : IxR X rIxD := by
  intro value slice pins s σ H x y v u Q I rx ry h hs
  obtain ⟨a, z, rfl, g, q⟩ := h
  obtain rfl : v = Value.ref a := rx
  have hT := dict_typeIs I g
  unfold subscriptTail
  refine wpAny_bind ?_
  rw [getitemInPython_of_ne hT.not_modules]
  refine wpAny_bind (wpAny_specialOf hT PySem.F.slot_dict_getitem.lookup ?_)
  have fin : wpAny (model X.prog X.w) X.A (subscripted slice false (.ref a) u)
      (fun r s₃ => wpAny (model X.prog X.w) X.A (letTemporaryGo value (.ref a) r >>= fun _ => pure r) (EP X pins σ Q) X.xe s₃) X.xe s := by
    rw [hs]
    refine wpAny_operating (d_getItem hu I g ry fun w' s3 I3 rw' => ?_)
    exact wpAny_bind (wpAny_letTemporaryGo (wpAny_pure ⟨z, H, I3, rw', q⟩))
  first
    | exact wpAny_pure (wpAny_bind fin)
    | exact wpAny_bind (wpAny_pure (wpAny_bind fin))
    | exact wpAny_bind fin
theorem units1 {k : Nat} {A : Around} (hr : L2H.RoomH k A) : A.units + 1 < cLine := by have := hr.un; omega
theorem ix_u {k : Nat} (hr : L2H.RoomH k X.A) (hK : X.K = K := by rfl) : IxR X (uIx K) := by
  subst hK
  exact IxR.or ix_seq (ix_dict (units1 hr))
theorem set_dict (hu : X.A.units + 1 < cLine) : PSet X rSetD := by
  intro pins s σ H o i v ov iv u Q I ro ri rv h
  obtain ⟨a, H', rfl, g, q⟩ := h
  obtain rfl : ov = Value.ref a := ro
  exact d_setItem hu I g ri rv fun s' I' => ⟨H', I', q⟩
theorem set_u {k : Nat} (hr : L2H.RoomH k X.A) : PSet X uSet := by
  intro pins s σ H o i v ov iv u Q I ro ri rv h
  rcases h with h | h
  · exact set_list pins s σ H o i v ov iv u Q I ro ri rv h
  · exact set_dict (units1 hr) pins s σ H o i v ov iv u Q I ro ri rv h
theorem sl_u (hK : X.K = K := by rfl) : SlR X (uSl K) := by
  subst hK
  exact SlR.or sl_list sl_tupA
theorem call_ulen (hK : X.K = K := by rfl) : CallR X (.builtin "len") (uLen K) := by
  subst hK
  exact CallR.or (CallR.or call_len_seq call_len_str) call_lenD
theorem pi_u {tg l : Expr} {tl : TE} (hl : PE X l tl) (hK : X.K = K := by rfl) : PI X tg l (uIt K tl) := by
  subst hK
  constructor
  intro pins s σ H R I h
  refine thn (hl.run pins s σ H _ I h) fun v s1 hh => ?_
  obtain ⟨x, H1, I1, r1, q1⟩ := hh
  rcases q1 with ⟨a, rfl, ⟨xs, hq⟩, q⟩ | ⟨a, rfl, ⟨xs, hq⟩, q⟩ | ⟨z, rfl, q⟩
  · cases r1
    obtain ⟨its, rv, p, hz⟩ := I1.list hq
    exact wpAny_pyIter_list p.isList (pi_one (tk := s1.toks) I1 _ (turn_list a _) ⟨_, Heap.get?_push_size _ rfl, rfl, rfl⟩ q)
  · cases r1
    obtain ⟨its, rv, p, hz⟩ := I1.tuple hq
    exact wpAny_pyIter_tuple (show s1.heap.IsTuple a its.toArray from p) (pi_one (tk := s1.toks) I1 _ (turn_tuple a _) ⟨_, Heap.get?_push_size _ rfl, rfl, rfl⟩ q)
  · obtain ⟨t, rfl⟩ := r1
    cases ha : z.cps.all (· < 128)
    · exact wpAny_pyIter_wide ha (pi_one (tk := s1.toks) I1 _ (turn_str _ z t "str_iterator" (.inr rfl)) ⟨_, Heap.get?_push_size _ rfl, rfl, rfl⟩ q)
    · exact wpAny_pyIter_ascii ha (pi_one (tk := s1.toks) I1 _ (turn_str _ z t "str_ascii_iterator" (.inl rfl)) ⟨_, Heap.get?_push_size _ rfl, rfl, rfl⟩ q)
def tTru (K : PySem.W.Frag) (ta : TE) : TT := fun σ H Q => ta σ H fun x H' => ∃ k, TruV K x H' k ∧ Q k H'
theorem pt_u (ha : PE X a ta) (he : ∀ whole, isTrue a X.env whole = (do let v ← whole; standAt a.pos; holding [v] (truthy v)) := by intro _; rfl) (hK : X.K = K := by rfl) :
    PT X a (tTru K ta) := by
  subst hK
  exact pt_truth ha he
end
end RT

namespace RT
open PySem PySem.Spec PyProof.Rows L2
/-! ## 6. own errors; constants; isinstance -/
structure ExcAt (K : PySem.W.Frag) (mg : Str → Option Value) (x : Str) : Type where
  C : Addr
  g : mg x = some (.ref C)
  ex : PySem.W.excIn K C [.type "ValueError", .type "Exception", .type "BaseException", .type "object"] "ValueError.__new__" = true
  kp : PySem.W.keepIn K (.ref C) = true
  sub : PySem.W.subIn K (.ref C) (.type "BaseException") = some true
  ty : PySem.W.typeIn K (.ref C) = some (.type "type")
  cc : ExcC K C
theorem ExcAt.raises {X : Cx} {K : PySem.W.Frag} {x : Str} {mg : Str → Option Value} (h : ExcAt K mg x) (hK : X.K = K := by rfl) : Raises X (.ref h.C) := by
  subst hK
  exact raises_own h.sub h.ty
def tRaise (W : L2.WX) (cls : Value) : TS := fun _ σ H => W cls none σ H
theorem ps_raiseU {X : Cx} {K : PySem.W.Frag} {x m : Str} {mg : Str → Option Value} {W : L2.WX} {j : Nat} {p p2 pos pos2 : Pos} (h : ExcAt K mg x) (tk : L2N.Takes X W) (hc : X.calm = true := by rfl) (hK : X.K = K := by rfl) (hm : X.mg = mg := by rfl) (hg : Gl X x := by rfl)
    (hdb : (x == ("__debug__" : Str)) = false := by decide) : PS X (.Raise (some (.Call (.Name x p) [.Constant (.str m) j p2] [] pos)) none pos2) (tRaise W (.ref h.C)) := by
  subst hK hm
  exact L2N.ps_raise hc tk (L2N.pmk_own PySem.F.excBase_ValueError h.ex h.g h.kp h.raises hg hdb)
/-! a try whose clause names the error: the body and the suite are derived where they are asked -/
def tTryB (X : Cx) (body : List Stmt) (W : L2.WX) : TS := fun D σ H =>
  ∀ (pn : List (Addr × Obj)) (xe : Value → Shared → Prop), L2N.Takes (X.tr pn xe) W → PassesOwn (model X.prog X.w) X.A X.env xe →
    ∃ t, PSs (X.tr pn xe) body t ∧ t D σ H
def tTryS (X : Cx) (suite : List Stmt) (a : Addr) (cls : Value) (d : Option Addr) : TS := fun D σ H =>
  ∀ (oe : Obj) (pn : List (Addr × Obj)), L2N.Zn cls d oe → (∃ vs, oe.data = .fields vs) →
    ∃ t, PSs (X.suite a ((a, oe) :: pn)) suite t ∧ t D σ H
def tTry (X : Cx) (K : PySem.W.Frag) (c : Value) (i : Nat) (Wout : L2.WX) (body suite : List Stmt) : TS := fun D σ H =>
  tTryB X body (wAs K c i (tTryS X suite) Wout D) D σ H
theorem ps_tryU {X : Cx} {K : PySem.W.Frag} {x n : Str} {c : Value} {i : Nat} {body suite : List Stmt} {b₀ : Stmt} {np pos pos' : Pos} {Wout : L2.WX}
    (hN : X.N.Nodup) (hi : X.N[i]? = some n) (hc : Names X x c) (tk : L2N.Takes X Wout) (hs : X.stack = X.env :: X.outer := by rfl)
    (hf : X.env.frame = some X.env.locals := by rfl) (hln : X.env.kindOf n = some .local := by rfl) (hK : X.K = K := by rfl) :
    PS X (.Try body [.ExceptHandler (some (.Name x np)) (some n) (b₀ :: suite) pos'] [] [] pos) (tTry X K c i Wout body (b₀ :: suite)) := by
  subst hK
  refine L2N.ps_try_as (tb := tTryB X body) (ts := tTryS X (b₀ :: suite)) hs hf hN hi hln hc tk (fun W pn xe tk' po => ?_) (fun a oe cls d pn hz hv => ?_)
  · constructor
    intro pins s σ H D I h
    obtain ⟨t, ht, q⟩ := h pn xe tk' po
    exact ht.run pins s σ H D I q
  · constructor
    intro pins s σ H D I h
    obtain ⟨t, ht, q⟩ := h oe pn hz hv
    exact ht.run pins s σ H D I q
structure ConAt (mg : Str → Option Value) (x : Str) (v : V) : Prop where
  ex : ∃ u, mg x = some u ∧ RelV v u
theorem pe_con_ {X : Cx} {x : Str} {v : V} {pos : Pos} (h : ConAt X.mg x v) (hg : Gl X x) (hd : (x == ("__debug__" : Str)) = false := by decide) : PE X (.Name x pos) (tC v) := by
  obtain ⟨u, h1, h2⟩ := h.ex
  exact pe_glob hg h1 h2 hd
theorem hot_of {A : Around} {a : Addr} {oe : Obj} {cls : Value} {d : Option Addr} (hz : L2N.Zn cls d oe) (hf : ∃ vs, oe.data = .fields vs) : L2H.Hot1 (A.mark (some (.ref a))) (a, oe) := by
  obtain ⟨vs, hv⟩ := hf
  exact ⟨rfl, vs, hv, hz.2.2 vs hv⟩
theorem markH {k : Nat} {A : Around} {o : Option Value} (h : L2H.RoomH k A) : L2H.RoomH k (A.mark o) := ⟨h.dp, h.un⟩
theorem hot_fields {A : Around} {e : Addr × Obj} (h : L2H.Hot1 A e) : ∃ vs, e.2.data = .fields vs := by
  obtain ⟨_, vs, hv, _⟩ := h
  exact ⟨vs, hv⟩
theorem passN0 {X : Cx} : Passes (L2N.CX X.prog X.w) X E0 := fun pins σ H s e s' I h => passN σ pins H s e s' I h
/-- isinstance by a built-in type's name -/
def isF (x : V) (S : String) : Bool := match x with
  | .non => S == "NoneType"
  | .bl _ => S == "bool" || S == "int"
  | .int _ => S == "int"
  | .str _ => S == "str"
  | _ => false
theorem kits : kitB "NoneType" "int" = some false ∧ kitB "NoneType" "bool" = some false ∧ kitB "NoneType" "str" = some false ∧ kitB "NoneType" "tuple" = some false ∧ kitB "NoneType" "list" = some false ∧ kitB "NoneType" "dict" = some false := by decide +kernel
theorem kitb : kitB "bool" "int" = some true ∧ kitB "bool" "bool" = some true ∧ kitB "bool" "str" = some false ∧ kitB "bool" "tuple" = some false ∧ kitB "bool" "list" = some false ∧ kitB "bool" "dict" = some false := by decide +kernel
theorem kiti : kitB "int" "int" = some true ∧ kitB "int" "bool" = some false ∧ kitB "int" "str" = some false ∧ kitB "int" "tuple" = some false ∧ kitB "int" "list" = some false ∧ kitB "int" "dict" = some false := by decide +kernel
theorem kitt : kitB "str" "int" = some false ∧ kitB "str" "bool" = some false ∧ kitB "str" "str" = some true ∧ kitB "str" "tuple" = some false ∧ kitB "str" "list" = some false ∧ kitB "str" "dict" = some false := by decide +kernel
theorem kitu : kitB "tuple" "int" = some false ∧ kitB "tuple" "bool" = some false ∧ kitB "tuple" "str" = some false ∧ kitB "tuple" "tuple" = some true ∧ kitB "tuple" "list" = some false ∧ kitB "tuple" "dict" = some false := by decide +kernel
theorem kitl : kitB "list" "int" = some false ∧ kitB "list" "bool" = some false ∧ kitB "list" "str" = some false ∧ kitB "list" "tuple" = some false ∧ kitB "list" "list" = some true ∧ kitB "list" "dict" = some false := by decide +kernel
theorem kitd : kitB "dict" "int" = some false ∧ kitB "dict" "bool" = some false ∧ kitB "dict" "str" = some false ∧ kitB "dict" "tuple" = some false ∧ kitB "dict" "list" = some false ∧ kitB "dict" "dict" = some true := by decide +kernel
def sixT (S : String) : Prop := S = "int" ∨ S = "bool" ∨ S = "str" ∨ S = "tuple" ∨ S = "list" ∨ S = "dict"
def uIsi (K : PySem.W.Frag) : List V → Hp → VK → Prop := rIsi K
theorem call_uisi {X : Cx} {K : PySem.W.Frag} (hK : X.K = K := by rfl) : CallR X (.builtin "isinstance") (uIsi K) := by
  subst hK
  exact call_isi
theorem v_isi_flat {K : PySem.W.Frag} {x : V} {S : String} {H : Hp} {Q : VK} (f : flatV x = true) (hS : sixT S) (q : Q (.bl (isF x S)) H) : uIsi K [x, .ty S] H Q := by
  have key : ∃ t, TyX K H x (.type t) ∧ kitB t S = some (isF x S) := by
    obtain ⟨a1, a2, a3, a4, a5, a6⟩ := kits
    obtain ⟨b1, b2, b3, b4, b5, b6⟩ := kitb
    obtain ⟨c1, c2, c3, c4, c5, c6⟩ := kiti
    obtain ⟨d1, d2, d3, d4, d5, d6⟩ := kitt
    cases x with
    | non => exact ⟨_, .base .non, by rcases hS with rfl | rfl | rfl | rfl | rfl | rfl <;> assumption⟩
    | bl b => exact ⟨_, .base (.bl b), by rcases hS with rfl | rfl | rfl | rfl | rfl | rfl <;> assumption⟩
    | int i => exact ⟨_, .base (.int i), by rcases hS with rfl | rfl | rfl | rfl | rfl | rfl <;> assumption⟩
    | str z => exact ⟨_, .base (.str z), by rcases hS with rfl | rfl | rfl | rfl | rfl | rfl <;> assumption⟩
    | byt b => exact absurd f (by simp [flatV])
    | flt b => exact absurd f (by simp [flatV])
    | ref a => exact absurd f (by simp [flatV])
    | ty n => exact absurd f (by simp [flatV])
  obtain ⟨t, h1, h2⟩ := key
  exact ⟨x, .ty S, _, _, _, rfl, .ty S, h1, kit_ty h2, q⟩
theorem v_isi_tup {K : PySem.W.Frag} {a : Addr} {xs : List V} {S : String} {H : Hp} {Q : VK} (h : H a = some (.tup xs)) (hS : sixT S) (q : Q (.bl (S == "tuple")) H) : uIsi K [.ref a, .ty S] H Q := by
  obtain ⟨d1, d2, d3, d4, d5, d6⟩ := kitu
  refine ⟨_, .ty S, _, _, _, rfl, .ty S, .base (.tup h), kit_ty (?_ : _ = some (S == "tuple")), q⟩
  rcases hS with rfl | rfl | rfl | rfl | rfl | rfl <;> assumption
theorem v_isi_lst {K : PySem.W.Frag} {a : Addr} {xs : List V} {S : String} {H : Hp} {Q : VK} (h : H a = some (.lst xs)) (hS : sixT S) (q : Q (.bl (S == "list")) H) : uIsi K [.ref a, .ty S] H Q := by
  obtain ⟨d1, d2, d3, d4, d5, d6⟩ := kitl
  refine ⟨_, .ty S, _, _, _, rfl, .ty S, .base (.lst h), kit_ty (?_ : _ = some (S == "list")), q⟩
  rcases hS with rfl | rfl | rfl | rfl | rfl | rfl <;> assumption
theorem v_isi_dic {K : PySem.W.Frag} {a : Addr} {kvs : List (Key × V)} {S : String} {H : Hp} {Q : VK} (h : H a = some (.dK kvs)) (hS : sixT S) (q : Q (.bl (S == "dict")) H) : uIsi K [.ref a, .ty S] H Q := by
  obtain ⟨d1, d2, d3, d4, d5, d6⟩ := kitd
  refine ⟨_, .ty S, _, _, _, rfl, .ty S, .base (.dK h), kit_ty (?_ : _ = some (S == "dict")), q⟩
  rcases hS with rfl | rfl | rfl | rfl | rfl | rfl <;> assumption
theorem v_isi_dicT {K : PySem.W.Frag} {a : Addr} {kvs : List (List Key × V)} {S : String} {H : Hp} {Q : VK} (h : H a = some (.dT kvs)) (hS : sixT S) (q : Q (.bl (S == "dict")) H) : uIsi K [.ref a, .ty S] H Q := by
  obtain ⟨d1, d2, d3, d4, d5, d6⟩ := kitd
  refine ⟨_, .ty S, _, _, _, rfl, .ty S, .base (.dT h), kit_ty (?_ : _ = some (S == "dict")), q⟩
  rcases hS with rfl | rfl | rfl | rfl | rfl | rfl <;> assumption
theorem v_isE {K : PySem.W.Frag} {D a : Addr} {c : V} {cv : Value} {b : Bool} {H : Hp} {Q : VK} (C : ExcC K D) (hcv : ∀ u, RelV c u → u = cv)
    (hk : PySem.W.kitOne K (.ref D) cv = some b) (q : Q (.bl b) H) : uIsE K (.ref D) none a [.ref a, c] H Q := ⟨D, c, cv, b, rfl, rfl, C, rfl, hcv, hk, q⟩
/-! ## 7. more of what takes what comes -/
section
variable {X : Cx} {K : PySem.W.Frag}
def uMax (K : PySem.W.Frag) := rMax K
def uMin (K : PySem.W.Frag) := rMin K
def uSum (K : PySem.W.Frag) := rSum K
def uAll (K : PySem.W.Frag) := rAll K
def uAny (K : PySem.W.Frag) := rAny K
theorem cr_umax (hc : X.calm = true) (hK : X.K = K := by rfl) : CallR X (.builtin "max") (uMax K) := by subst hK; exact cr_max hc
theorem cr_umin (hc : X.calm = true) (hK : X.K = K := by rfl) : CallR X (.builtin "min") (uMin K) := by subst hK; exact cr_min hc
theorem cr_usum (hc : X.calm = true) (hK : X.K = K := by rfl) : CallR X (.builtin "sum") (uSum K) := by subst hK; exact cr_sum hc
theorem cr_uall (hc : X.calm = true) (hK : X.K = K := by rfl) : CallR X (.builtin "all") (uAll K) := by subst hK; exact cr_all hc
theorem cr_uany (hc : X.calm = true) (hK : X.K = K := by rfl) : CallR X (.builtin "any") (uAny K) := by subst hK; exact cr_any hc
def uMax2 : List V → Hp → VK → Prop := fun xs H Q => ∃ i j, xs = [.int i, .int j] ∧ Q (.int (if j > i then j else i)) H
def uMin2 : List V → Hp → VK → Prop := fun xs H Q => ∃ i j, xs = [.int i, .int j] ∧ Q (.int (if j < i then j else i)) H
theorem call_umax2 (hc : X.calm = true) : CallR X (.builtin "max") uMax2 := call_max2 hc
theorem call_umin2 (hc : X.calm = true) : CallR X (.builtin "min") uMin2 := call_min2 hc
def uInt1 : List V → Hp → VK → Prop := fun xs H Q => (∃ i, xs = [.int i] ∧ Q (.int i) H) ∨ ∃ k, xs = [.bl k] ∧ Q (.int (if k then 1 else 0)) H
theorem call_uint1 : CallR X (.type "int") uInt1 := call_int1
def uStrI : List V → Hp → VK → Prop := fun xs H Q => ∃ i, xs = [.int i] ∧ i.natAbs.log2 < 1920 ∧ Q (.str (toString i)) H
theorem call_ustr : CallR X (.type "str") uStrI := call_str_int
def uSorted (K : PySem.W.Frag) : List V → Hp → VK → Prop := fun vs H Q => (rSortedI K vs H Q ∨ rSortedS K vs H Q) ∨ rSortC K vs H Q
theorem cr_usorted (hK : X.K = K := by rfl) : CallR X (.builtin "sorted") (uSorted K) := by subst hK; exact CallR.or (CallR.or cr_sortedI cr_sortedS) cr_sortedC
def uLt : R2 := fun x y H Q => rI0 (fun i j => .bl (decide (i < j))) x y H Q ∨ ∃ i j, x = .str i ∧ y = .str j ∧ Q (.bl (decide (i.cps.toList < j.cps.toList))) H
theorem op_ult : OpR X (compareOp .Lt) uLt := OpR.or op_lt op_lt_str
def rInDk (neg : Bool) : R2 := fun y x H Q => ∃ a o, x = .ref a ∧ DGet H a y o ∧ Q (.bl (if neg then !o.isSome else o.isSome)) H
theorem op_inDk (hu : X.A.units + 1 < cLine) : OpR X (compareOp .In) (rInDk false) := by
  intro pins s σ H y x u v Q I ry rx h
  obtain ⟨a, o, rfl, g, q⟩ := h
  obtain rfl : v = Value.ref a := rx
  exact d_in hu I g ry fun s' I' => ⟨.bl o.isSome, H, I', rfl, q⟩
theorem op_ninDk (hu : X.A.units + 1 < cLine) : OpR X (compareOp .NotIn) (rInDk true) := by
  intro pins s σ H y x u v Q I ry rx h
  obtain ⟨a, o, rfl, g, q⟩ := h
  obtain rfl : v = Value.ref a := rx
  exact d_notIn hu I g ry fun s' I' => ⟨.bl (!o.isSome), H, I', rfl, q⟩
def rInDp (K : PySem.W.Frag) (neg : Bool) : R2 := fun x y H Q => ∃ d ds, Dp K H x d ∧ Dp K H y (.list ds) ∧ SeqAt.shaped d = true ∧ SeqAt.shaped (.list ds) = true ∧ Q (.bl (if neg then !ds.any fun z => PyData.eqv z d else ds.any fun z => PyData.eqv z d)) H
def uIn (K : PySem.W.Frag) (neg : Bool) : R2 := fun x y H Q => ((rIn K neg x y H Q ∨ rInDp K neg x y H Q) ∨ rInDk neg x y H Q) ∨
  ∃ i j, x = .str i ∧ y = .str j ∧ Q (.bl (if neg then !(!(Builtin.Str.occurrences j i 0 j.length 1).isEmpty) else !(Builtin.Str.occurrences j i 0 j.length 1).isEmpty)) H
theorem op_uin {k : Nat} (hr : L2H.RoomH k X.A) (hK : X.K = K := by rfl) : OpR X (compareOp .In) (uIn K false) := by
  subst hK
  exact OpR.or (OpR.or (OpR.or op_in_seq (L2.op_inD (by have := hr.un; omega))) (op_inDk (units1 hr))) op_in_str
theorem op_unin {k : Nat} (hr : L2H.RoomH k X.A) (hK : X.K = K := by rfl) : OpR X (compareOp .NotIn) (uIn K true) := by
  subst hK
  exact OpR.or (OpR.or (OpR.or op_notIn_seq (L2.op_notInD (by have := hr.un; omega))) (op_ninDk (units1 hr))) op_notin_str
theorem ip_uadd : PIp X .Add (ipI fun i j => i + j) := ip_add
theorem ip_usub : PIp X .Sub (ipI fun i j => i - j) := ip_sub
def uList (K : PySem.W.Frag) : List V → Hp → VK → Prop := fun xs H Q => (∃ p ys, xs = [.ref p] ∧ (SqL K H p ys ∨ SqT K H p ys) ∧ ∀ l, H l = none → Q (.ref l) (upd H l (.lst ys))) ∨ rListD xs H Q
theorem call_ulist (hc : X.calm = true) (hK : X.K = K := by rfl) : CallR X (.type "list") (uList K) := by subst hK; exact CallR.or call_list_of (call_list_dK hc)
def uTuple (K : PySem.W.Frag) : List V → Hp → VK → Prop := fun xs H Q => ∃ p ys, xs = [.ref p] ∧ ((SqL K H p ys ∧ ∀ l, H l = none → Q (.ref l) (upd H l (.tup ys))) ∨ (SqT K H p ys ∧ Q (.ref p) H))
theorem call_utuple (hK : X.K = K := by rfl) : CallR X (.type "tuple") (uTuple K) := by subst hK; exact call_tuple_of
def tNotU (t : TT) : TE := fun σ H Q => t σ H fun c H1 => Q (.bl (!c)) H1
end
/-! ## 8. heaps: what stands -/
structure Chg (S : List Addr) (H H' : Hp) : Prop where
  keep : ∀ {b o}, H b = some o → b ∉ S → H' b = some o
  tup : ∀ {b xs}, H b = some (.tup xs) → H' b = some (.tup xs)
  dom : ∀ {b}, H' b = none → H b = none
theorem Chg.refl {S : List Addr} {H : Hp} : Chg S H H := ⟨fun h _ => h, fun h => h, fun h => h⟩
theorem Chg.at {H H' : Hp} (c : Chg [] H H') {b : Addr} {o : HO} (h : H b = some o) : H' b = some o := c.keep h (by simp)
theorem Chg.same {H H' : Hp} (c : Chg [] H H') : Same H H' := fun _ _ h => c.at h
theorem Chg.mono {S S' : List Addr} {H H' : Hp} (c : Chg S H H') (h : ∀ b ∈ S, b ∈ S') : Chg S' H H' :=
  ⟨fun e n => c.keep e fun m => n (h _ m), c.tup, c.dom⟩
theorem Chg.of0 {S : List Addr} {H H' : Hp} (c : Chg [] H H') : Chg S H H' := c.mono (by simp)
theorem Chg.trans {S : List Addr} {H H1 H2 : Hp} (a : Chg S H H1) (b : Chg S H1 H2) : Chg S H H2 :=
  ⟨fun e n => b.keep (a.keep e n) n, fun e => b.tup (a.tup e), fun e => a.dom (b.dom e)⟩
/-- what is changed besides was new -/
theorem Chg.trans' {S S' : List Addr} {H H1 H2 : Hp} (a : Chg S H H1) (b : Chg S' H1 H2) (hn : ∀ l ∈ S', l ∈ S ∨ H l = none) : Chg S H H2 :=
  ⟨fun {c o} e n => b.keep (a.keep e n) fun m => (hn c m).elim n fun z => (by rw [z] at e; cases e), fun e => b.tup (a.tup e), fun e => a.dom (b.dom e)⟩
theorem Chg.new {H : Hp} {p : Addr} {o : HO} (h : H p = none) : Chg [] H (upd H p o) := by
  refine ⟨fun {b u} e _ => ?_, fun {b u} e => ?_, fun {b} e => ?_⟩
  · rw [upd_ne (ne_of_none e h)]; exact e
  · rw [upd_ne (ne_of_none e h)]; exact e
  · by_cases hb : b = p
    · subst hb; exact h
    · rw [upd_ne hb] at e; exact e
theorem Chg.set {H : Hp} {p : Addr} {o u : HO} (h : H p = some u) (hu : ∀ xs, u ≠ .tup xs) : Chg [p] H (upd H p o) := by
  refine ⟨fun {b v} e n => ?_, fun {b xs} e => ?_, fun {b} e => ?_⟩
  · rw [upd_ne (by simpa using n)]; exact e
  · have : b ≠ p := fun z => by subst z; rw [h] at e; exact hu xs (Option.some.inj e)
    rw [upd_ne this]; exact e
  · by_cases hb : b = p
    · subst hb; rw [upd_same] at e; cases e
    · rw [upd_ne hb] at e; exact e
theorem Chg.ne {S : List Addr} {H H' : Hp} (c : Chg S H H') {p q : Addr} {o : HO} (hp : H' p = none) (hq : H q = some o) : q ≠ p := by
  intro e; subst e; rw [c.dom hp] at hq; cases hq
theorem Chg.seqL {K : PySem.W.Frag} {H H' : Hp} (c : Chg [] H H') {a : Addr} {xs : List V} (h : SqL K H a xs) : SqL K H' a xs := c.same.seq h
theorem Chg.seqLS {K : PySem.W.Frag} {S : List Addr} {H H' : Hp} (c : Chg S H H') {a : Addr} {xs : List V} (h : SqL K H a xs) (n : ∀ o, H a = some o → a ∉ S) : SqL K H' a xs := by
  rcases h with (h | ⟨o, h⟩) | h
  · exact .inl (.inl (c.keep h (n _ h)))
  · exact .inl (.inr ⟨o, c.keep h (n _ h)⟩)
  · exact .inr h
theorem Chg.seqT {K : PySem.W.Frag} {H H' : Hp} (c : Chg [] H H') {a : Addr} {xs : List V} (h : SqT K H a xs) : SqT K H' a xs := by
  rcases h with (h | ⟨o, h⟩) | h
  · exact .inl (.inl (c.at h))
  · exact .inl (.inr ⟨o, c.at h⟩)
  · exact .inr h
end RT

namespace RT
open PySem PySem.Spec PyProof.Rows L2
/-! ## 9. the readings, from the left, one step a lemma -/
section
variable {t u : TS} {n : L2.St → Hp → Prop} {r : VK} {b c : L2.St → Hp → Prop} {σ : L2.St} {H : Hp} {te tf : TE} {g : TG} {Q : VK} {i : Nat} {v x y : V}
theorem v_seq (h : t ⟨u ⟨n, r, b, c⟩, r, b, c⟩ σ H) : tSeq t u ⟨n, r, b, c⟩ σ H := h
theorem v_next (h : n σ H) : tNext ⟨n, r, b, c⟩ σ H := h
theorem v_break (h : b σ H) : tBreak ⟨n, r, b, c⟩ σ H := h
theorem v_cont (h : c σ H) : tCont ⟨n, r, b, c⟩ σ H := h
theorem v_asg (h : te σ H fun x H1 => g x σ H1 n) : tAsg te g ⟨n, r, b, c⟩ σ H := h
theorem v_name {Q : L2.St → Hp → Prop} (h : Q (σ.set i (some v)) H) : gName i v σ H Q := h
theorem v_gtup {K : PySem.W.Frag} {m : Nat} {t : TGs} {a : Addr} {xs : List V} {Q : L2.St → Hp → Prop} (e : SqT K H a xs) (hl : xs.length = m) (h : t xs σ H Q) : gTup K m t (.ref a) σ H Q := ⟨a, xs, rfl, e, hl, h⟩
theorem v_gcons {t : TG} {u : TGs} {vs : List V} {Q : L2.St → Hp → Prop} (h : t v σ H fun σ' H' => u vs σ' H' Q) : gCons t u (v :: vs) σ H Q := ⟨v, vs, rfl, h⟩
theorem v_gnil {Q : L2.St → Hp → Prop} (h : Q σ H) : gNil [] σ H Q := ⟨rfl, h⟩
theorem v_drop (h : te σ H fun _ H1 => n σ H1) : tDrop te ⟨n, r, b, c⟩ σ H := h
theorem v_ret (h : te σ H r) : tRet te ⟨n, r, b, c⟩ σ H := h
theorem v_retN (h : r .non H) : tRetN ⟨n, r, b, c⟩ σ H := h
theorem v_ifs {tc : TT} (h : tc σ H fun k H1 => if k = true then t ⟨n, r, b, c⟩ σ H1 else u ⟨n, r, b, c⟩ σ H1) : tIfS tc t u ⟨n, r, b, c⟩ σ H := h
/-- where two ways meet again: what holds there -/
theorem v_join {U : L2.St → Hp → Prop} (R : L2.St → Hp → Prop) (k : ∀ σ H, R σ H → U σ H) (h : ∀ U : L2.St → Hp → Prop, (∀ σ H, R σ H → U σ H) → t ⟨U, r, b, c⟩ σ H) : t ⟨U, r, b, c⟩ σ H := h U k
/-- an if whose test does something: what holds behind it -/
theorem v_ifJ {tc : TT} {D : Ends} (R : Bool → Hp → Prop) (k1 : ∀ H', R true H' → t D σ H') (k2 : ∀ H', R false H' → u D σ H') (h : ∀ Q : Bool → Hp → Prop, (∀ k H', R k H' → Q k H') → tc σ H Q) : tIfS tc t u D σ H := by
  refine h _ fun k H' hr => ?_
  cases k with
  | true => rw [if_pos rfl]; exact k1 H' hr
  | false => rw [if_neg Bool.false_ne_true]; exact k2 H' hr
theorem v_aug {ti : TIp} (h : σ[i]? = some (some x)) (q : te σ H fun y H1 => ti x y H1 fun z H2 => n (σ.set i (some z)) H2) : tAug i te ti ⟨n, r, b, c⟩ σ H := ⟨x, h, q⟩
theorem v_ipI {f : Int → Int → Int} {i j : Int} (q : Q (.int (f i j)) H) : ipI f (.int i) (.int j) H Q := ⟨_, _, rfl, rfl, q⟩
theorem v_var (h : σ[i]? = some (some v)) (q : Q v H) : tVar i σ H Q := ⟨v, h, q⟩
theorem v_c (q : Q v H) : tC v σ H Q := q
theorem v_op {rr : R2} (h : te σ H fun x H1 => tf σ H1 fun y H2 => rr x y H2 Q) : tOp rr te tf σ H Q := h
theorem v_un {rr : V → Hp → VK → Prop} (h : te σ H fun x H1 => rr x H1 Q) : tUn rr te σ H Q := h
def IsB (x : V) (P : Bool → Prop) : Prop := ∃ k, x = .bl k ∧ P k
theorem v_isb {P : Bool → Prop} {k : Bool} (h : P k) : IsB (.bl k) P := ⟨k, rfl, h⟩
theorem v_test {Q : Bool → Hp → Prop} (h : te σ H fun x H1 => IsB x fun k => Q k H1) : tTest te σ H Q := h
theorem v_tb {Q : Bool → Hp → Prop} (h : te σ H fun x H1 => IsB x fun k => Q k H1) : tB te σ H Q := h
def Tru (K : PySem.W.Frag) (x : V) (H : Hp) (P : Bool → Prop) : Prop := ∃ k, TruV K x H k ∧ P k
theorem v_tru {K : PySem.W.Frag} {Q : Bool → Hp → Prop} (h : te σ H fun x H1 => Tru K x H1 fun k => Q k H1) : tTru K te σ H Q := h
theorem v_tru_b {K : PySem.W.Frag} {P : Bool → Prop} {k : Bool} (h : P k) : Tru K (.bl k) H P := ⟨k, rfl, h⟩
theorem v_tru_i {K : PySem.W.Frag} {P : Bool → Prop} {i : Int} (h : P (i != 0)) : Tru K (.int i) H P := ⟨_, rfl, h⟩
theorem v_tru_n {K : PySem.W.Frag} {P : Bool → Prop} (h : P false) : Tru K .non H P := ⟨_, rfl, h⟩
theorem v_tru_l {K : PySem.W.Frag} {P : Bool → Prop} {a : Addr} {xs : List V} (hl : SqL K H a xs) (h : P (!xs.isEmpty)) : Tru K (.ref a) H P := ⟨_, .inl ⟨xs, hl, rfl⟩, h⟩
theorem v_tru_t {K : PySem.W.Frag} {P : Bool → Prop} {a : Addr} {xs : List V} (hl : SqT K H a xs) (h : P (!xs.isEmpty)) : Tru K (.ref a) H P := ⟨_, .inr (.inl ⟨xs, hl, rfl⟩), h⟩
theorem v_and {t u : TT} {Q : Bool → Hp → Prop} (h : t σ H fun k H1 => if k = true then u σ H1 Q else Q false H1) : tAnd t u σ H Q := h
theorem v_or {t u : TT} {Q : Bool → Hp → Prop} (h : t σ H fun k H1 => if k = true then Q true H1 else u σ H1 Q) : tOr t u σ H Q := h
theorem v_not {t : TT} {Q : Bool → Hp → Prop} (h : t σ H fun k H1 => Q (!k) H1) : tNot t σ H Q := h
theorem v_notU {t : TT} (h : t σ H fun k H1 => Q (.bl (!k)) H1) : tNotU t σ H Q := h
theorem v_andV (h : te σ H fun x H1 => IsB x fun k => if k = true then tf σ H1 Q else Q (.bl false) H1) : tAndV te tf σ H Q := h
theorem v_orV (h : te σ H fun x H1 => IsB x fun k => if k = true then Q (.bl true) H1 else tf σ H1 Q) : tOrV te tf σ H Q := h
theorem v_ifE {t : TT} (h : t σ H fun k H1 => if k = true then te σ H1 Q else tf σ H1 Q) : tIf t te tf σ H Q := h
theorem v_chain {rr rs : R2} {tg : TE} (h : te σ H fun x H1 => tf σ H1 fun y H2 => rr x y H2 fun z H3 => IsB z fun k => if k = true then tg σ H3 fun w' H4 => rs y w' H4 Q else Q (.bl false) H3) : tChain rr rs te tf tg σ H Q := h
theorem v_nil {Q : List V → Hp → Prop} (h : Q [] H) : tNil σ H Q := h
theorem v_cons {tr : TA} {Q : List V → Hp → Prop} (h : te σ H fun x H1 => tr σ H1 fun xs H2 => Q (x :: xs) H2) : tCons te tr σ H Q := h
theorem v_callS {sp : Sp} {E : L2.St → XK} {ta : TA} (h : ta σ H fun vs H1 => sp vs H1 Q (E σ)) : tCallS sp E ta σ H Q := h
theorem v_call {sp : Sp} {E : XK} {ta : TA} (h : ta σ H fun vs H1 => sp (vs ++ []) H1 Q E) : tCall sp [] E ta σ H Q := h
theorem v_cb {rr : List V → Hp → VK → Prop} {ta : TA} (h : ta σ H fun vs H1 => rr vs H1 Q) : tCB rr ta σ H Q := h
def BM (K : PySem.W.Frag) (T : String) (x : V) (H : Hp) (P : Prop) : Prop := tyV K T x H ∧ P
theorem v_bm {K : PySem.W.Frag} {T : String} {rr : V → List V → Hp → VK → Prop} {ta : TA} (h : te σ H fun x H1 => BM K T x H1 (ta σ H1 fun xs H2 => rr x xs H2 Q)) : tBM K T rr te ta σ H Q := h
theorem v_bm0 {K : PySem.W.Frag} {T : String} {rr : V → List V → Hp → VK → Prop} (h : te σ H fun x H1 => BM K T x H1 (rr x [] H1 Q)) : tBM0 K T rr te σ H Q := h
theorem v_bml {K : PySem.W.Frag} {p : Addr} {xs : List V} {P : Prop} (h : SqL K H p xs) (q : P) : BM K "list" (.ref p) H P := ⟨.inl ⟨rfl, xs, h⟩, q⟩
theorem v_bms {K : PySem.W.Frag} {z : Str} {P : Prop} (q : P) : BM K "str" (.str z) H P := ⟨rfl, q⟩
def NewL (xs : List V) (H : Hp) (Q : VK) : Prop := xs.length ≤ sizeLine ∧ ∀ p, H p = none → Q (.ref p) (upd H p (.lst xs))
def NewT (xs : List V) (H : Hp) (Q : VK) : Prop := xs.length ≤ sizeLine ∧ ∀ p, H p = none → Q (.ref p) (upd H p (.tup xs))
theorem v_lst {ta : TA} (h : ta σ H fun xs H1 => NewL xs H1 Q) : tLst ta σ H Q := h
theorem v_tup {ta : TA} (h : ta σ H fun xs H1 => NewT xs H1 Q) : tTup ta σ H Q := h
theorem v_newL {xs : List V} (hl : xs.length ≤ sizeLine) (h : ∀ p H', H p = none → Chg [] H H' → H' p = some (.lst xs) → Q (.ref p) H') : NewL xs H Q :=
  ⟨hl, fun p hp => h p _ hp (.new hp) upd_same⟩
theorem v_newT {xs : List V} (hl : xs.length ≤ sizeLine) (h : ∀ p H', H p = none → Chg [] H H' → H' p = some (.tup xs) → Q (.ref p) H') : NewT xs H Q :=
  ⟨hl, fun p hp => h p _ hp (.new hp) upd_same⟩
theorem v_iteT {A B : Prop} (h : A) : if true = true then A else B := by rw [if_pos rfl]; exact h
theorem v_iteF {A B : Prop} (h : B) : if false = true then A else B := by rw [if_neg Bool.false_ne_true]; exact h
theorem v_iteD {p A B : Prop} [Decidable p] (h1 : p → A) (h2 : ¬ p → B) : if decide p = true then A else B := by
  by_cases h : p
  · rw [decide_eq_true h]; exact v_iteT (h1 h)
  · rw [decide_eq_false h]; exact v_iteF (h2 h)
theorem v_iteN {p A B : Prop} [Decidable p] (h1 : ¬ p → A) (h2 : p → B) : if (!decide p) = true then A else B := by
  by_cases h : p
  · rw [decide_eq_true h]; exact v_iteF (h2 h)
  · rw [decide_eq_false h]; exact v_iteT (h1 h)
theorem v_iteNT {A B : Prop} (h : B) : if (!true) = true then A else B := v_iteF h
theorem v_iteNF {A B : Prop} (h : A) : if (!false) = true then A else B := v_iteT h
theorem v_iteB {k : Bool} {A B : Prop} (h1 : k = true → A) (h2 : k = false → B) : if k = true then A else B := by
  cases k
  · exact v_iteF (h2 rfl)
  · exact v_iteT (h1 rfl)
theorem v_iteNB {k : Bool} {A B : Prop} (h1 : k = false → A) (h2 : k = true → B) : if (!k) = true then A else B := by
  cases k
  · exact v_iteT (h1 rfl)
  · exact v_iteF (h2 rfl)
def IsI (x : V) (P : Int → Prop) : Prop := ∃ i, x = .int i ∧ P i
/-- by values -/
theorem v_rI0 {f : Int → Int → V} {i j : Int} (q : Q (f i j) H) : rI0 f (.int i) (.int j) H Q := ⟨_, _, rfl, rfl, q⟩
theorem v_rI {C : Int → Int → Prop} {f : Int → Int → V} {i j : Int} (hc : C i j) (q : Q (f i j) H) : rI C f (.int i) (.int j) H Q := ⟨_, _, rfl, rfl, hc, q⟩
theorem v_rU {f : Int → V} {i : Int} (q : Q (f i) H) : rU f (.int i) H Q := ⟨_, rfl, q⟩
variable {K : PySem.W.Frag}
theorem v_add_ii {i j : Int} (q : Q (.int (i + j)) H) : uAdd K (.int i) (.int j) H Q := .inl (.inl ⟨_, _, rfl, rfl, q⟩)
theorem v_add_ss {i j : Str} (hl : i.length + j.length ≤ sizeLine) (q : Q (.str (i ++ j)) H) : uAdd K (.str i) (.str j) H Q := .inl (.inr ⟨_, _, rfl, rfl, hl, q⟩)
theorem v_add_ll {a b : Addr} {xs ys : List V} (h1 : H a = some (.lst xs)) (h2 : H b = some (.lst ys)) (hl : xs.length + ys.length ≤ sizeLine)
    (q : ∀ p H', H p = none → Chg [] H H' → H' p = some (.lst (xs ++ ys)) → Q (.ref p) H') : uAdd K (.ref a) (.ref b) H Q :=
  .inr (.inl ⟨a, b, xs, ys, rfl, rfl, h1, h2, hl, fun p hp => q p _ hp (.new hp) upd_same⟩)
theorem v_mul_ii {i j : Int} (hc : CMul i j) (q : Q (.int (i * j)) H) : uMul (.int i) (.int j) H Q := .inl ⟨_, _, rfl, rfl, hc, q⟩
theorem v_eq_ii {i j : Int} (q : Q (.bl (decide (i = j))) H) : uEq K (.int i) (.int j) H Q := .inl (.inl ⟨rfl, by rw [dec_int, show (i == j) = decide (i = j) from rfl]; exact q⟩)
theorem v_ne_ii {i j : Int} (q : Q (.bl (!decide (i = j))) H) : uNe K (.int i) (.int j) H Q := .inl (.inl ⟨rfl, by rw [dec_int, show (i == j) = decide (i = j) from rfl]; exact q⟩)
theorem v_eq_ss {i j : Str} (q : Q (.bl (decide (i = j))) H) : uEq K (.str i) (.str j) H Q := .inl (.inl ⟨rfl, by rw [dec_str, show (i == j) = decide (i = j) from rfl]; exact q⟩)
theorem v_ne_ss {i j : Str} (q : Q (.bl (!decide (i = j))) H) : uNe K (.str i) (.str j) H Q := .inl (.inl ⟨rfl, by rw [dec_str, show (i == j) = decide (i = j) from rfl]; exact q⟩)
theorem v_eq_d {x y : V} {d e : PyData} (h1 : Dp K H x d) (h2 : Dp K H y e) (s1 : SeqAt.shaped d = true) (s2 : SeqAt.shaped e = true) (q : Q (.bl (PyData.eqv d e)) H) : uEq K x y H Q := .inl (.inr ⟨d, e, h1, h2, s1, s2, q⟩)
theorem v_ne_d {x y : V} {d e : PyData} (h1 : Dp K H x d) (h2 : Dp K H y e) (s1 : SeqAt.shaped d = true) (s2 : SeqAt.shaped e = true) (q : Q (.bl (!PyData.eqv d e)) H) : uNe K x y H Q := .inl (.inr ⟨d, e, h1, h2, s1, s2, q⟩)
theorem v_eq_bb {i j : Bool} (q : Q (.bl (i == j)) H) : uEq K (.bl i) (.bl j) H Q := .inl (.inl ⟨rfl, by rw [dec_bl]; exact q⟩)
theorem v_ne_bb {i j : Bool} (q : Q (.bl (!(i == j))) H) : uNe K (.bl i) (.bl j) H Q := .inl (.inl ⟨rfl, by rw [dec_bl]; exact q⟩)
theorem v_bits (h : te σ H fun x H1 => IsI x fun i => Q (.int (Builtin.Int.intBits i : Nat)) H1) : tBits te σ H Q := h
theorem v_lt_ii {i j : Int} (q : Q (.bl (decide (i < j))) H) : uLt (.int i) (.int j) H Q := .inl ⟨_, _, rfl, rfl, q⟩
theorem v_len_l {a : Addr} {xs : List V} (h : SqL K H a xs) (q : Q (.int xs.length) H) : uLen K [.ref a] H Q := .inl (.inl ⟨a, xs, rfl, .inl h, q⟩)
theorem v_len_t {a : Addr} {xs : List V} (h : SqT K H a xs) (q : Q (.int xs.length) H) : uLen K [.ref a] H Q := .inl (.inl ⟨a, xs, rfl, .inr h, q⟩)
theorem v_len_s {z : Str} (h : z.length ≤ sizeLine) (q : Q (.int z.length) H) : uLen K [.str z] H Q := .inl (.inr ⟨z, rfl, h, q⟩)
theorem v_ix_l {a : Addr} {xs : List V} {i : Int} {v : V} (h : SqL K H a xs) (hi : atI xs i = some v) (q : Q v H) : uIx K (.ref a) (.int i) H Q := .inl (.inl ⟨a, xs, i, v, rfl, rfl, h, hi, q⟩)
theorem v_ix_t {a : Addr} {xs : List V} {i : Int} {v : V} (h : SqT K H a xs) (hi : atI xs i = some v) (q : Q v H) : uIx K (.ref a) (.int i) H Q := .inl (.inr (.inl ⟨a, xs, i, v, rfl, rfl, h, hi, q⟩))
theorem v_ix_s {z : Str} {i : Int} {c : Nat} (hl : z.length ≤ sizeLine) (hi : atI z.cps.toList i = some c) (q : Q (.str ⟨#[c]⟩) H) : uIx K (.str z) (.int i) H Q := .inl (.inr (.inr ⟨z, i, c, rfl, rfl, hl, hi, q⟩))
theorem v_in_l {a : Addr} {xs : List V} {x : V} (h : SqL K H a xs) (fx : flatV x = true) (fs : xs.all flatV = true) (q : Q (.bl (inV x xs)) H) : uIn K false x (.ref a) H Q := .inl (.inl (.inl ⟨a, xs, rfl, .inl h, fx, fs, q⟩))
theorem v_nin_l {a : Addr} {xs : List V} {x : V} (h : SqL K H a xs) (fx : flatV x = true) (fs : xs.all flatV = true) (q : Q (.bl (!inV x xs)) H) : uIn K true x (.ref a) H Q := .inl (.inl (.inl ⟨a, xs, rfl, .inl h, fx, fs, q⟩))
theorem v_in_t {a : Addr} {xs : List V} {x : V} (h : SqT K H a xs) (fx : flatV x = true) (fs : xs.all flatV = true) (q : Q (.bl (inV x xs)) H) : uIn K false x (.ref a) H Q := .inl (.inl (.inl ⟨a, xs, rfl, .inr h, fx, fs, q⟩))
theorem v_in_d {a : Addr} {y : V} {o : Option V} (g : DGet H a y o) (q : Q (.bl o.isSome) H) : uIn K false y (.ref a) H Q := .inl (.inr ⟨a, o, rfl, g, q⟩)
theorem v_nin_d {a : Addr} {y : V} {o : Option V} (g : DGet H a y o) (q : Q (.bl (!o.isSome)) H) : uIn K true y (.ref a) H Q := .inl (.inr ⟨a, o, rfl, g, q⟩)
theorem inV_strs (z : Str) (zs : List Str) : inV (.str z) (zs.map V.str) = decide (z ∈ zs) := by
  unfold inV
  induction zs with
  | nil => rfl
  | cons y zs ih =>
    rw [List.map_cons, List.any_cons, ih, show eqV (.str y) (.str z) = (y == z) from rfl]
    by_cases h : y = z
    · subst h; simp
    · have h' : ¬ z = y := fun e => h e.symm
      simp [h, h']
theorem flat_strs (zs : List Str) : (zs.map V.str).all flatV = true := by rw [List.all_map]; exact List.all_eq_true.mpr fun _ _ => rfl
theorem flat_ints (zs : List Int) : (zs.map V.int).all flatV = true := by rw [List.all_map]; exact List.all_eq_true.mpr fun _ _ => rfl
theorem cut_mem {xs : List V} {lo hi : Option Int} {x : V} (h : x ∈ cutV xs lo hi) : x ∈ xs := List.mem_of_mem_drop (List.mem_of_mem_take h)
/-- an item at some place -/
theorem atI_some {α : Type} {xs : List α} {i : Int} (h0 : 0 ≤ i) (h1 : i < xs.length) : ∃ v, atI xs i = some v ∧ xs[i.toNat]? = some v := by
  obtain ⟨k, rfl⟩ := Int.eq_ofNat_of_zero_le h0
  have hk : k < xs.length := by omega
  exact ⟨xs[k], atI_nat (List.getElem?_eq_getElem hk), by simpa using List.getElem?_eq_getElem hk⟩
theorem v_ix_lany {a : Addr} {xs : List V} {i : Int} (h : SqL K H a xs) (h0 : 0 ≤ i) (h1 : i < xs.length) (q : ∀ v, xs[i.toNat]? = some v → Q v H) : uIx K (.ref a) (.int i) H Q := by
  obtain ⟨v, e1, e2⟩ := atI_some (xs := xs) h0 h1
  exact v_ix_l h e1 (q v e2)
theorem v_ix_tany {a : Addr} {xs : List V} {i : Int} (h : SqT K H a xs) (h0 : 0 ≤ i) (h1 : i < xs.length) (q : ∀ v, xs[i.toNat]? = some v → Q v H) : uIx K (.ref a) (.int i) H Q := by
  obtain ⟨v, e1, e2⟩ := atI_some (xs := xs) h0 h1
  exact v_ix_t h e1 (q v e2)
theorem v_sl_l {a : Addr} {xs : List V} {lo hi : Option Int} (h : SqL K H a xs) (q : ∀ p H', H p = none → Chg [] H H' → H' p = some (.lst (cutV xs lo hi)) → Q (.ref p) H') : uSl K (.ref a) lo hi H Q :=
  .inl ⟨a, xs, rfl, h, fun p hp => q p _ hp (.new hp) upd_same⟩
theorem cutV_whole {xs : List V} {lo hi : Option Int} (h : HT.sIx xs.length 0 lo = 0 ∧ HT.sIx xs.length xs.length hi = xs.length) : cutV xs lo hi = xs := by
  unfold cutV
  rw [h.1, h.2]
  simp
theorem v_sl_t {a : Addr} {xs : List V} {lo hi : Option Int} (h : H a = some (.tup xs)) (q : ∀ p H', Chg [] H H' → H' p = some (.tup (cutV xs lo hi)) → Q (.ref p) H') : uSl K (.ref a) lo hi H Q :=
  .inr ⟨a, xs, rfl, SqT.of h, fun z => q a H .refl (by rw [cutV_whole z]; exact h), fun _ p hp => q p _ (.new hp) upd_same⟩
theorem v_add_tt {a b : Addr} {xs ys : List V} (h1 : H a = some (.tup xs)) (h2 : H b = some (.tup ys)) (hl : xs.length + ys.length ≤ sizeLine)
    (q : ∀ p H', Chg [] H H' → H' p = some (.tup (xs ++ ys)) → Q (.ref p) H') : uAdd K (.ref a) (.ref b) H Q :=
  .inr (.inr ⟨a, b, xs, ys, rfl, rfl, SqT.of h1, SqT.of h2, hl, fun e => q b H .refl (by rw [e]; exact h2), fun _ e => q a H .refl (by rw [e, List.append_nil]; exact h1), fun _ _ p hp => q p _ (.new hp) upd_same⟩)
theorem v_pop0 {a : Addr} {x : V} {xs : List V} (h : H a = some (.lst (x :: xs))) (q : ∀ H', Chg [a] H H' → H' a = some (.lst xs) → Q x H') : rPopAt (.ref a) [.int 0] H Q :=
  ⟨a, x :: xs, 0, 0, x, rfl, rfl, h, by decide, by decide, by simp [seqIndex?], rfl, q _ (Chg.set h (by intro _ z; cases z)) upd_same⟩
theorem v_sl {rr : V → Option Int → Option Int → Hp → VK → Prop} {tl th : TO} (h : te σ H fun x H1 => tl σ H1 fun l H2 => th σ H2 fun u H3 => rr x l u H3 Q) : tSl rr te tl th σ H Q := h
theorem v_nopart {Q : Option Int → Hp → Prop} (h : Q none H) : tNoPart σ H Q := h
theorem v_isi {P : Int → Prop} {i : Int} (h : P i) : IsI (.int i) P := ⟨i, rfl, h⟩
theorem v_part {Q : Option Int → Hp → Prop} (h : te σ H fun x H1 => IsI x fun i => Q (some i) H1) : tPart te σ H Q := h
theorem v_append {a : Addr} {xs : List V} {y : V} (h : H a = some (.lst xs)) (hl : xs.length < sizeLine) (q : ∀ H', Chg [a] H H' → H' a = some (.lst (xs ++ [y])) → Q .non H') : rAppend (.ref a) [y] H Q :=
  ⟨a, xs, y, rfl, rfl, h, hl, q _ (.set h (by intro _ e; cases e)) upd_same⟩
theorem v_cnt {a : Addr} {xs : List V} {y : V} (h : SqL K H a xs) (fy : flatV y = true) (fx : xs.all flatV = true) (q : Q (.int (xs.countP fun z => eqV z y : Nat)) H) : uCnt K (.ref a) [y] H Q := ⟨a, xs, y, rfl, rfl, h, fy, fx, q⟩
theorem v_max2 {i j : Int} (q : Q (.int (if j > i then j else i)) H) : uMax2 [.int i, .int j] H Q := ⟨_, _, rfl, q⟩
theorem v_min2 {i j : Int} (q : Q (.int (if j < i then j else i)) H) : uMin2 [.int i, .int j] H Q := ⟨_, _, rfl, q⟩
theorem v_int_i {i : Int} (q : Q (.int i) H) : uInt1 [.int i] H Q := .inl ⟨_, rfl, q⟩
theorem v_int_b {k : Bool} (q : Q (.int (if k then 1 else 0)) H) : uInt1 [.bl k] H Q := .inr ⟨_, rfl, q⟩
theorem v_sorted_i {a : Addr} {ns : List Int} (h : SqL K H a (ns.map V.int)) (q : ∀ (ms : List Int) p H', ms.Perm ns → ms.Pairwise (· ≤ ·) → H p = none → Chg [] H H' → H' p = some (.lst (ms.map V.int)) → Q (.ref p) H') : uSorted K [.ref a] H Q :=
  .inl (.inl ⟨a, ns, rfl, h, fun ms p h1 h2 hp => q ms p _ h1 h2 hp (.new hp) upd_same⟩)
theorem v_max_i {a : Addr} {ns : List Int} (h : SqL K H a (ns.map V.int)) (hn : 0 < ns.length) (q : ∀ m, m ∈ ns → (∀ y, y ∈ ns → y ≤ m) → Q (.int m) H) : uMax K [.ref a] H Q := ⟨a, ns, rfl, h, hn, q⟩
end
theorem v_raise {W : L2.WX} {D : Ends} {cls : Value} {σ : L2.St} {H : Hp} (h : W cls none σ H) : tRaise W cls D σ H := h
theorem v_isi_i_int {K : PySem.W.Frag} {i : Int} {H : Hp} {Q : VK} (q : Q (.bl true) H) : uIsi K [(.int i), .ty "int"] H Q := v_isi_flat rfl (by simp [sixT]) q
theorem v_isi_i_bool {K : PySem.W.Frag} {i : Int} {H : Hp} {Q : VK} (q : Q (.bl false) H) : uIsi K [(.int i), .ty "bool"] H Q := v_isi_flat rfl (by simp [sixT]) q
theorem v_isi_i_str {K : PySem.W.Frag} {i : Int} {H : Hp} {Q : VK} (q : Q (.bl false) H) : uIsi K [(.int i), .ty "str"] H Q := v_isi_flat rfl (by simp [sixT]) q
theorem v_isi_i_tuple {K : PySem.W.Frag} {i : Int} {H : Hp} {Q : VK} (q : Q (.bl false) H) : uIsi K [(.int i), .ty "tuple"] H Q := v_isi_flat rfl (by simp [sixT]) q
theorem v_isi_i_list {K : PySem.W.Frag} {i : Int} {H : Hp} {Q : VK} (q : Q (.bl false) H) : uIsi K [(.int i), .ty "list"] H Q := v_isi_flat rfl (by simp [sixT]) q
theorem v_isi_i_dict {K : PySem.W.Frag} {i : Int} {H : Hp} {Q : VK} (q : Q (.bl false) H) : uIsi K [(.int i), .ty "dict"] H Q := v_isi_flat rfl (by simp [sixT]) q
theorem v_isi_b_int {K : PySem.W.Frag} {i : Bool} {H : Hp} {Q : VK} (q : Q (.bl true) H) : uIsi K [(.bl i), .ty "int"] H Q := v_isi_flat rfl (by simp [sixT]) q
theorem v_isi_b_bool {K : PySem.W.Frag} {i : Bool} {H : Hp} {Q : VK} (q : Q (.bl true) H) : uIsi K [(.bl i), .ty "bool"] H Q := v_isi_flat rfl (by simp [sixT]) q
theorem v_isi_b_str {K : PySem.W.Frag} {i : Bool} {H : Hp} {Q : VK} (q : Q (.bl false) H) : uIsi K [(.bl i), .ty "str"] H Q := v_isi_flat rfl (by simp [sixT]) q
theorem v_isi_b_tuple {K : PySem.W.Frag} {i : Bool} {H : Hp} {Q : VK} (q : Q (.bl false) H) : uIsi K [(.bl i), .ty "tuple"] H Q := v_isi_flat rfl (by simp [sixT]) q
theorem v_isi_b_list {K : PySem.W.Frag} {i : Bool} {H : Hp} {Q : VK} (q : Q (.bl false) H) : uIsi K [(.bl i), .ty "list"] H Q := v_isi_flat rfl (by simp [sixT]) q
theorem v_isi_b_dict {K : PySem.W.Frag} {i : Bool} {H : Hp} {Q : VK} (q : Q (.bl false) H) : uIsi K [(.bl i), .ty "dict"] H Q := v_isi_flat rfl (by simp [sixT]) q
theorem v_isi_s_int {K : PySem.W.Frag} {i : Str} {H : Hp} {Q : VK} (q : Q (.bl false) H) : uIsi K [(.str i), .ty "int"] H Q := v_isi_flat rfl (by simp [sixT]) q
theorem v_isi_s_bool {K : PySem.W.Frag} {i : Str} {H : Hp} {Q : VK} (q : Q (.bl false) H) : uIsi K [(.str i), .ty "bool"] H Q := v_isi_flat rfl (by simp [sixT]) q
theorem v_isi_s_str {K : PySem.W.Frag} {i : Str} {H : Hp} {Q : VK} (q : Q (.bl true) H) : uIsi K [(.str i), .ty "str"] H Q := v_isi_flat rfl (by simp [sixT]) q
theorem v_isi_s_tuple {K : PySem.W.Frag} {i : Str} {H : Hp} {Q : VK} (q : Q (.bl false) H) : uIsi K [(.str i), .ty "tuple"] H Q := v_isi_flat rfl (by simp [sixT]) q
theorem v_isi_s_list {K : PySem.W.Frag} {i : Str} {H : Hp} {Q : VK} (q : Q (.bl false) H) : uIsi K [(.str i), .ty "list"] H Q := v_isi_flat rfl (by simp [sixT]) q
theorem v_isi_s_dict {K : PySem.W.Frag} {i : Str} {H : Hp} {Q : VK} (q : Q (.bl false) H) : uIsi K [(.str i), .ty "dict"] H Q := v_isi_flat rfl (by simp [sixT]) q
theorem v_isi_n_int {K : PySem.W.Frag}  {H : Hp} {Q : VK} (q : Q (.bl false) H) : uIsi K [.non, .ty "int"] H Q := v_isi_flat rfl (by simp [sixT]) q
theorem v_isi_n_bool {K : PySem.W.Frag}  {H : Hp} {Q : VK} (q : Q (.bl false) H) : uIsi K [.non, .ty "bool"] H Q := v_isi_flat rfl (by simp [sixT]) q
theorem v_isi_n_str {K : PySem.W.Frag}  {H : Hp} {Q : VK} (q : Q (.bl false) H) : uIsi K [.non, .ty "str"] H Q := v_isi_flat rfl (by simp [sixT]) q
theorem v_isi_n_tuple {K : PySem.W.Frag}  {H : Hp} {Q : VK} (q : Q (.bl false) H) : uIsi K [.non, .ty "tuple"] H Q := v_isi_flat rfl (by simp [sixT]) q
theorem v_isi_n_list {K : PySem.W.Frag}  {H : Hp} {Q : VK} (q : Q (.bl false) H) : uIsi K [.non, .ty "list"] H Q := v_isi_flat rfl (by simp [sixT]) q
theorem v_isi_n_dict {K : PySem.W.Frag}  {H : Hp} {Q : VK} (q : Q (.bl false) H) : uIsi K [.non, .ty "dict"] H Q := v_isi_flat rfl (by simp [sixT]) q
theorem v_isi_t_int {K : PySem.W.Frag} {a : Addr} {xs : List V} {H : Hp} {Q : VK} (h : H a = some (.tup xs)) (q : Q (.bl false) H) : uIsi K [.ref a, .ty "int"] H Q := v_isi_tup h (by simp [sixT]) q
theorem v_isi_t_bool {K : PySem.W.Frag} {a : Addr} {xs : List V} {H : Hp} {Q : VK} (h : H a = some (.tup xs)) (q : Q (.bl false) H) : uIsi K [.ref a, .ty "bool"] H Q := v_isi_tup h (by simp [sixT]) q
theorem v_isi_t_str {K : PySem.W.Frag} {a : Addr} {xs : List V} {H : Hp} {Q : VK} (h : H a = some (.tup xs)) (q : Q (.bl false) H) : uIsi K [.ref a, .ty "str"] H Q := v_isi_tup h (by simp [sixT]) q
theorem v_isi_t_tuple {K : PySem.W.Frag} {a : Addr} {xs : List V} {H : Hp} {Q : VK} (h : H a = some (.tup xs)) (q : Q (.bl true) H) : uIsi K [.ref a, .ty "tuple"] H Q := v_isi_tup h (by simp [sixT]) q
theorem v_isi_t_list {K : PySem.W.Frag} {a : Addr} {xs : List V} {H : Hp} {Q : VK} (h : H a = some (.tup xs)) (q : Q (.bl false) H) : uIsi K [.ref a, .ty "list"] H Q := v_isi_tup h (by simp [sixT]) q
theorem v_isi_t_dict {K : PySem.W.Frag} {a : Addr} {xs : List V} {H : Hp} {Q : VK} (h : H a = some (.tup xs)) (q : Q (.bl false) H) : uIsi K [.ref a, .ty "dict"] H Q := v_isi_tup h (by simp [sixT]) q
theorem v_isi_l_int {K : PySem.W.Frag} {a : Addr} {xs : List V} {H : Hp} {Q : VK} (h : H a = some (.lst xs)) (q : Q (.bl false) H) : uIsi K [.ref a, .ty "int"] H Q := v_isi_lst h (by simp [sixT]) q
theorem v_isi_l_bool {K : PySem.W.Frag} {a : Addr} {xs : List V} {H : Hp} {Q : VK} (h : H a = some (.lst xs)) (q : Q (.bl false) H) : uIsi K [.ref a, .ty "bool"] H Q := v_isi_lst h (by simp [sixT]) q
theorem v_isi_l_str {K : PySem.W.Frag} {a : Addr} {xs : List V} {H : Hp} {Q : VK} (h : H a = some (.lst xs)) (q : Q (.bl false) H) : uIsi K [.ref a, .ty "str"] H Q := v_isi_lst h (by simp [sixT]) q
theorem v_isi_l_tuple {K : PySem.W.Frag} {a : Addr} {xs : List V} {H : Hp} {Q : VK} (h : H a = some (.lst xs)) (q : Q (.bl false) H) : uIsi K [.ref a, .ty "tuple"] H Q := v_isi_lst h (by simp [sixT]) q
theorem v_isi_l_list {K : PySem.W.Frag} {a : Addr} {xs : List V} {H : Hp} {Q : VK} (h : H a = some (.lst xs)) (q : Q (.bl true) H) : uIsi K [.ref a, .ty "list"] H Q := v_isi_lst h (by simp [sixT]) q
theorem v_isi_l_dict {K : PySem.W.Frag} {a : Addr} {xs : List V} {H : Hp} {Q : VK} (h : H a = some (.lst xs)) (q : Q (.bl false) H) : uIsi K [.ref a, .ty "dict"] H Q := v_isi_lst h (by simp [sixT]) q
/-! dicts -/
section
variable {H : Hp} {Q : VK} {K : PySem.W.Frag} {a : Addr} {kvs : List (Key × V)}
theorem v_ix_d {y v : V} (g : DGet H a y (some v)) (q : Q v H) : uIx K (.ref a) y H Q := .inr ⟨a, v, rfl, g, q⟩
theorem v_set_d {y v : V} {k : Key} {Q : Hp → Prop} (e : H a = some (.dK kvs)) (hy : y = kV k) (hl : kvs.length < sizeLine) (q : ∀ H', Chg [a] H H' → H' a = some (.dK (putK kvs k v)) → Q H') : uSet (.ref a) y v H Q := by
  subst hy
  exact .inr ⟨a, _, rfl, DPut.k e hl, q _ (Chg.set e (by intro _ z; cases z)) upd_same⟩
theorem v_set_t {v : V} {kvs : List (List Key × V)} {k : List Key} {b : Addr} {Q : Hp → Prop} (e : H a = some (.dT kvs)) (eb : H b = some (.tup (k.map kV))) (hl : kvs.length < sizeLine) (q : ∀ H', Chg [a] H H' → H' a = some (.dT (putK kvs k v)) → Q H') : uSet (.ref a) (.ref b) v H Q :=
  .inr ⟨a, _, rfl, DPut.t e eb hl, q _ (Chg.set e (by intro _ z; cases z)) upd_same⟩
theorem v_set_l {i : Int} {v : V} {xs : List V} {j : Nat} {Q : Hp → Prop} (e : H a = some (.lst xs)) (hj : ixN xs.length i = some j) (q : ∀ H', Chg [a] H H' → H' a = some (.lst (xs.set j v)) → Q H') : uSet (.ref a) (.int i) v H Q :=
  .inl ⟨a, xs, i, j, rfl, rfl, e, hj, q _ (Chg.set e (by intro _ z; cases z)) upd_same⟩
theorem v_list_d (e : H a = some (.dK kvs)) (q : ∀ p H', H p = none → Chg [] H H' → H' p = some (.lst (kvs.map fun kv => kV kv.1)) → Q (.ref p) H') : uList K [.ref a] H Q :=
  .inr ⟨a, kvs, rfl, e, fun p hp => q p _ hp (.new hp) upd_same⟩
theorem v_list_l {xs : List V} (e : SqL K H a xs) (q : ∀ p H', H p = none → Chg [] H H' → H' p = some (.lst xs) → Q (.ref p) H') : uList K [.ref a] H Q :=
  .inl ⟨a, xs, rfl, .inl e, fun p hp => q p _ hp (.new hp) upd_same⟩
theorem v_list_t {xs : List V} (e : SqT K H a xs) (q : ∀ p H', H p = none → Chg [] H H' → H' p = some (.lst xs) → Q (.ref p) H') : uList K [.ref a] H Q :=
  .inl ⟨a, xs, rfl, .inr e, fun p hp => q p _ hp (.new hp) upd_same⟩
theorem v_tuple_l {xs : List V} (e : SqL K H a xs) (q : ∀ p H', H p = none → Chg [] H H' → H' p = some (.tup xs) → Q (.ref p) H') : uTuple K [.ref a] H Q :=
  ⟨a, xs, rfl, .inl ⟨e, fun p hp => q p _ hp (.new hp) upd_same⟩⟩
theorem v_tuple_t {xs : List V} (e : SqT K H a xs) (q : Q (.ref a) H) : uTuple K [.ref a] H Q := ⟨a, xs, rfl, .inr ⟨e, q⟩⟩
theorem v_sub {to ti : TE} {t : TSet} {v : V} {σ : L2.St} {n : L2.St → Hp → Prop} (h : to σ H fun o H1 => ti σ H1 fun i H2 => t o i v H2 fun H3 => n σ H3) : gSub to ti t v σ H n := h
/-- dict displays -/
def DispE (p : Addr) (ps : List (V × V)) (H2 : Hp) (Q : VK) : Prop := H2 p = some (.dK []) ∧ ∃ kvs : List (Key × V), ps = kvs.map (fun kv => (kV kv.1, kv.2)) ∧ kvs.length ≤ 15 ∧ Q (.ref p) (upd H2 p (.dK (mergeK [] kvs)))
theorem v_disp {trs : List (TE × TE)} {σ : L2.St} (h : ∀ p H', H p = none → Chg [] H H' → H' p = some (.dK []) → tPairs trs σ H' fun ps H2 => DispE p ps H2 Q) : tDisp trs σ H Q := fun p hp => h p _ hp (.new hp) upd_same
theorem v_pcons {tk tv : TE} {trs : List (TE × TE)} {σ : L2.St} {Q : List (V × V) → Hp → Prop} (h : tk σ H fun x H1 => tv σ H1 fun y H2 => tPairs trs σ H2 fun ps H3 => Q ((x, y) :: ps) H3) : tPairs ((tk, tv) :: trs) σ H Q := h
theorem v_pnil {σ : L2.St} {Q : List (V × V) → Hp → Prop} (h : Q [] H) : tPairs [] σ H Q := h
theorem v_dispE {p : Addr} {ps : List (V × V)} (kvs : List (Key × V)) (e : H p = some (.dK [])) (hp : ps = kvs.map (fun kv => (kV kv.1, kv.2))) (hl : kvs.length ≤ 15) (q : ∀ H', Chg [p] H H' → H' p = some (.dK (mergeK [] kvs)) → Q (.ref p) H') : DispE p ps H Q :=
  ⟨e, kvs, hp, hl, q _ (Chg.set e (by intro _ z; cases z)) upd_same⟩
theorem v_dnewK {σ : L2.St} (q : ∀ p H', H p = none → Chg [] H H' → H' p = some (.dK []) → Q (.ref p) H') : tDNewK σ H Q := fun p hp => q p _ hp (.new hp) upd_same
theorem v_dnewT {σ : L2.St} (q : ∀ p H', H p = none → Chg [] H H' → H' p = some (.dT []) → Q (.ref p) H') : tDNewT σ H Q := fun p hp => q p _ hp (.new hp) upd_same
end
theorem v_eq_dT {H : Hp} {Q : VK} {K : PySem.W.Frag} {a b : Addr} {ks ls : List (List Key × V)} (ha : H a = some (.dT ks)) (hb : H b = some (.dT ls)) (hl : ks.length = ls.length) (h : ∀ p ∈ ks, valV ls p.1 = some p.2 ∧ flatB p.2 = true) (q : Q (.bl true) H) : uEq K (.ref a) (.ref b) H Q :=
  .inr (.inr ⟨a, b, ks, ls, rfl, rfl, ha, hb, hl, h, q⟩)
theorem v_ne_dT {H : Hp} {Q : VK} {K : PySem.W.Frag} {a b : Addr} {ks ls : List (List Key × V)} (ha : H a = some (.dT ks)) (hb : H b = some (.dT ls)) (hl : ks.length = ls.length) (h : ∀ p ∈ ks, valV ls p.1 = some p.2 ∧ flatB p.2 = true) (q : Q (.bl false) H) : uNe K (.ref a) (.ref b) H Q :=
  .inr (.inr ⟨a, b, ks, ls, rfl, rfl, ha, hb, hl, h, q⟩)
section
variable {κ : Type} [DecidableEq κ]
theorem valV_mem {kvs : List (κ × V)} (hn : (kvs.map (·.1)).Nodup) {p : κ × V} (h : p ∈ kvs) : valV kvs p.1 = some p.2 := by
  induction kvs with
  | nil => cases h
  | cons q r ih =>
    rw [List.map_cons, List.nodup_cons] at hn
    rcases List.mem_cons.mp h with rfl | h
    · exact valV_pos rfl
    · have : ¬ q.1 = p.1 := fun e => hn.1 (by rw [e]; exact List.mem_map_of_mem h)
      rw [valV_neg this]; exact ih hn.2 h
theorem nd_put (kvs : List (κ × V)) (k : κ) (v : V) (hn : (kvs.map (·.1)).Nodup) : ((putK kvs k v).map (·.1)).Nodup := by
  cases h : valV kvs k with
  | none => exact nd_putK v hn h
  | some y =>
    have e : (putK kvs k v).map (·.1) = kvs.map (·.1) := by
      unfold putK
      rw [valV_any, h, if_pos (show (some y).isSome = true from rfl), List.map_map]
      apply List.map_congr_left
      intro kv _
      show (if kv.1 = k then (kv.1, v) else kv).1 = kv.1
      split <;> rfl
    rw [e]; exact hn
theorem assoc_len {ks ls : List (κ × V)} (h1 : (ks.map (·.1)).Nodup) (h2 : (ls.map (·.1)).Nodup) (h : ∀ k, valV ks k = valV ls k) : ks.length = ls.length := by
  have p : (ks.map (·.1)).Perm (ls.map (·.1)) := (List.perm_ext_iff_of_nodup h1 h2).mpr fun k => by
    constructor
    · intro m
      cases e : valV ls k with
      | none => rw [← h] at e; exact absurd m (valV_not e)
      | some y => exact valV_in e
    · intro m
      cases e : valV ks k with
      | none => rw [h] at e; exact absurd m (valV_not e)
      | some y => exact valV_in e
  have := p.length_eq
  simpa using this
end
/-! lists of ints and texts as data -/
theorem dpAll_ints {K : PySem.W.Frag} {H : Hp} : ∀ ns : List Int, DpAll K H (ns.map V.int) (ns.map PyData.int)
  | [] => .nil
  | n :: r => .cons (.int n) (dpAll_ints r)
theorem eqvAll_ints : ∀ ns ms : List Int, PyData.eqvAll (ns.map PyData.int) (ms.map PyData.int) = decide (ns = ms)
  | [], [] => rfl
  | [], _ :: _ => rfl
  | _ :: _, [] => rfl
  | n :: r, m :: t => by
    show ((n == m) && PyData.eqvAll (r.map PyData.int) (t.map PyData.int)) = _
    rw [eqvAll_ints r t]
    by_cases h : n = m
    · subst h; simp
    · simp [h]
theorem canLayAll_ints : ∀ ns : List Int, PyData.canLayAll0 (ns.map PyData.int) = true
  | [] => rfl
  | n :: r => by
    show (PyData.canLay0 (.int n) && PyData.canLayAll0 (r.map PyData.int)) = true
    rw [canLayAll_ints r]; rfl
theorem depthAll_ints : ∀ ns : List Int, PyData.depthAll (ns.map PyData.int) ≤ 1
  | [] => by decide
  | n :: r => by
    have := depthAll_ints r
    show max (PyData.depth (.int n)) (PyData.depthAll (r.map PyData.int)) ≤ 1
    have e : PyData.depth (.int n) ≤ 1 := Nat.zero_le 1
    omega
theorem shaped_ints (ns : List Int) : SeqAt.shaped (.list (ns.map PyData.int)) = true := by
  unfold SeqAt.shaped
  rw [Bool.and_eq_true, decide_eq_true_eq]
  refine ⟨canLayAll_ints ns, ?_⟩
  show PyData.depthAll (ns.map PyData.int) + 1 ≤ 64
  have := depthAll_ints ns
  omega
section
variable {H : Hp} {Q : VK} {K : PySem.W.Frag} {a b : Addr} {ns ms : List Int}
theorem v_eq_ints (h1 : SqL K H a (ns.map V.int)) (h2 : SqL K H b (ms.map V.int)) (q : Q (.bl (decide (ns = ms))) H) : uEq K (.ref a) (.ref b) H Q :=
  v_eq_d (.lst h1 (dpAll_ints ns)) (.lst h2 (dpAll_ints ms)) (shaped_ints ns) (shaped_ints ms) (by
    show Q (.bl (PyData.eqvAll (ns.map PyData.int) (ms.map PyData.int))) H
    rw [eqvAll_ints]; exact q)
theorem v_ne_ints (h1 : SqL K H a (ns.map V.int)) (h2 : SqL K H b (ms.map V.int)) (q : Q (.bl (!decide (ns = ms))) H) : uNe K (.ref a) (.ref b) H Q :=
  v_ne_d (.lst h1 (dpAll_ints ns)) (.lst h2 (dpAll_ints ms)) (shaped_ints ns) (shaped_ints ms) (by
    show Q (.bl (!PyData.eqvAll (ns.map PyData.int) (ms.map PyData.int))) H
    rw [eqvAll_ints]; exact q)
theorem v_eq_nil2 (h1 : SqL K H a []) (h2 : SqL K H b []) (q : Q (.bl true) H) : uEq K (.ref a) (.ref b) H Q := v_eq_ints (ns := []) (ms := []) h1 h2 q
theorem v_ne_nil2 (h1 : SqL K H a []) (h2 : SqL K H b []) (q : Q (.bl false) H) : uNe K (.ref a) (.ref b) H Q := v_ne_ints (ns := []) (ms := []) h1 h2 q
end
/-! ## 10. loops -/
def ForQ (J : It) (g : TG) (tb : TS) (D : Ends) (σ : L2.St) (H1 : Hp) : Prop := ∃ W : Nat → Nat → L2.St → Hp → Prop, (∃ m, W 0 m σ H1) ∧ ∀ i m σ H, W i m σ H →
  (J.stop i H ∧ D.nx σ H) ∨ (J.go i H ∧ ∃ N : L2.St → Hp → Prop, (∀ σ' H', N σ' H' → ∃ m', m' < m ∧ W (i + 1) m' σ' H') ∧ ∀ x H', J.yld i H x H' → g x σ H' fun σ2 H2 => tb { D with nx := N, ct := N, bk := D.nx } σ2 H2)
section
variable {g : TG} {tb : TS} {n : L2.St → Hp → Prop} {r : VK} {b c : L2.St → Hp → Prop} {σ : L2.St} {H : Hp} {K : PySem.W.Frag} {te : TE} {ta : TA} {Q : VK}
theorem v_for {wi : TI} (h : wi σ H fun J H1 => ForQ J g tb ⟨n, r, b, c⟩ σ H1) : tFor wi g tb ⟨n, r, b, c⟩ σ H := h
def Rng1 (vs : List V) (H : Hp) (R : It → Hp → Prop) : Prop := ∃ j : Int, vs = [.int j] ∧ -(2 ^ 62) ≤ j ∧ j < 2 ^ 62 ∧ R (Itr 0 j.toNat) H
def Rng2 (vs : List V) (H : Hp) (R : It → Hp → Prop) : Prop := ∃ i j : Int, vs = [.int i, .int j] ∧ (-(2 ^ 62) ≤ i ∧ i < 2 ^ 62 ∧ -(2 ^ 62) ≤ j ∧ j < 2 ^ 62) ∧ R (Itr i (j - i).toNat) H
def Rng3 (vs : List V) (H : Hp) (R : It → Hp → Prop) : Prop := ∃ (i j c : Int) (n : Nat), vs = [.int i, .int j, .int c] ∧ RgC i j c n ∧ R (Itc i c n) H
theorem v_rng1 {R : It → Hp → Prop} (h : ta σ H fun vs H1 => Rng1 vs H1 R) : iRng1 ta σ H R := h
theorem v_rng2 {R : It → Hp → Prop} (h : ta σ H fun vs H1 => Rng2 vs H1 R) : iRng2 ta σ H R := h
theorem v_rng3 {R : It → Hp → Prop} (h : ta σ H fun vs H1 => Rng3 vs H1 R) : iRng3 ta σ H R := h
theorem v_rng1' {R : It → Hp → Prop} {j : Int} (h1 : -(2 ^ 62) ≤ j) (h2 : j < 2 ^ 62) (h : R (Itr 0 j.toNat) H) : Rng1 [.int j] H R := ⟨j, rfl, h1, h2, h⟩
theorem v_rng2' {R : It → Hp → Prop} {i j : Int} (h1 : -(2 ^ 62) ≤ i) (h2 : i < 2 ^ 62) (h3 : -(2 ^ 62) ≤ j) (h4 : j < 2 ^ 62) (h : R (Itr i (j - i).toNat) H) : Rng2 [.int i, .int j] H R := ⟨i, j, rfl, ⟨h1, h2, h3, h4⟩, h⟩
theorem v_rng3' {R : It → Hp → Prop} {i j c : Int} {n : Nat} (h1 : RgC i j c n) (h : R (Itc i c n) H) : Rng3 [.int i, .int j, .int c] H R := ⟨i, j, c, n, rfl, h1, h⟩
theorem v_it {R : It → Hp → Prop} (h : te σ H fun x H1 => ItV K x H1 R) : uIt K te σ H R := h
theorem v_it_l {R : It → Hp → Prop} {a : Addr} {xs : List V} (hl : SqL K H a xs) (h : R (Itl K a) H) : ItV K (.ref a) H R := .inl ⟨a, rfl, ⟨xs, hl⟩, h⟩
theorem v_it_t {R : It → Hp → Prop} {a : Addr} {xs : List V} (hl : SqT K H a xs) (h : R (Itt K a) H) : ItV K (.ref a) H R := .inr (.inl ⟨a, rfl, ⟨xs, hl⟩, h⟩)
theorem v_it_s {R : It → Hp → Prop} {z : Str} (h : R (Its z) H) : ItV K (.str z) H R := .inr (.inr ⟨z, rfl, h⟩)
theorem v_for_range {lo : Int} {m : Nat} (Pv : Nat → L2.St → Hp → Prop) (h0 : Pv 0 σ H)
    (hs : ∀ i σ H, i < m → Pv i σ H → g (.int (lo + i)) σ H fun σ2 H2 => tb ⟨Pv (i + 1), r, n, Pv (i + 1)⟩ σ2 H2) (hd : ∀ σ H, Pv m σ H → n σ H) : ForQ (Itr lo m) g tb ⟨n, r, b, c⟩ σ H := for_range Pv h0 hs hd
theorem v_for_rangeC {lo st : Int} {m : Nat} (Pv : Nat → L2.St → Hp → Prop) (h0 : Pv 0 σ H)
    (hs : ∀ i σ H, i < m → Pv i σ H → g (.int (lo + (i : Nat) * st)) σ H fun σ2 H2 => tb ⟨Pv (i + 1), r, n, Pv (i + 1)⟩ σ2 H2) (hd : ∀ σ H, Pv m σ H → n σ H) : ForQ (Itc lo st m) g tb ⟨n, r, b, c⟩ σ H := for_rangeC Pv h0 hs hd
theorem v_for_list {a : Addr} {xs : List V} (Pv : Nat → L2.St → Hp → Prop) (h0 : Pv 0 σ H) (hl : ∀ i σ H, i ≤ xs.length → Pv i σ H → SqL K H a xs)
    (hs : ∀ i x σ H, xs[i]? = some x → Pv i σ H → g x σ H fun σ2 H2 => tb ⟨Pv (i + 1), r, n, Pv (i + 1)⟩ σ2 H2) (hd : ∀ σ H, Pv xs.length σ H → n σ H) : ForQ (Itl K a) g tb ⟨n, r, b, c⟩ σ H := for_list Pv h0 hl hs hd
theorem v_for_tup {a : Addr} {xs : List V} (Pv : Nat → L2.St → Hp → Prop) (h0 : Pv 0 σ H) (hl : ∀ i σ H, i ≤ xs.length → Pv i σ H → SqT K H a xs)
    (hs : ∀ i x σ H, xs[i]? = some x → Pv i σ H → g x σ H fun σ2 H2 => tb ⟨Pv (i + 1), r, n, Pv (i + 1)⟩ σ2 H2) (hd : ∀ σ H, Pv xs.length σ H → n σ H) : ForQ (Itt K a) g tb ⟨n, r, b, c⟩ σ H := for_tup Pv h0 hl hs hd
/-- a while: what holds ahead of each turn, a number that falls -/
def WT (W : Nat → L2.St → Hp → Prop) (m : Nat) (tb : TS) (r : VK) (n : L2.St → Hp → Prop) (σ : L2.St) (H : Hp) : Prop :=
  ∃ N : L2.St → Hp → Prop, (∀ σ' H', N σ' H' → ∃ m', m' < m ∧ W m' σ' H') ∧ tb ⟨N, r, n, N⟩ σ H
theorem v_while {tc : TT} (Pv : L2.St → Hp → Prop) (μ : L2.St → Hp → Nat) (h0 : Pv σ H)
    (hs : ∀ σ H, Pv σ H → tc σ H fun k H1 => if k = true then WT (fun m σ H => Pv σ H ∧ μ σ H = m) (μ σ H) tb r n σ H1 else n σ H1) : tWhile tc tb ⟨n, r, b, c⟩ σ H :=
  ⟨fun m σ H => Pv σ H ∧ μ σ H = m, ⟨_, h0, rfl⟩, fun m σ H ⟨h, e⟩ => by subst e; exact hs σ H h⟩
theorem v_wt {Pv : L2.St → Hp → Prop} {μ : L2.St → Hp → Nat} {m : Nat} (h : tb ⟨fun σ' H' => Pv σ' H' ∧ μ σ' H' < m, r, n, fun σ' H' => Pv σ' H' ∧ μ σ' H' < m⟩ σ H) : WT (fun m σ H => Pv σ H ∧ μ σ H = m) m tb r n σ H :=
  ⟨_, fun σ' H' hh => ⟨_, hh.2, hh.1, rfl⟩, h⟩
/-! comprehensions -/
def LcQ (J : It) (g : TG) (tt : TT) (te : TE) (vs : List Nat) (σ : L2.St) (H1 : Hp) (Q : VK) : Prop := ∀ D, H1 D = none → ∃ W : Nat → Nat → Hp → Prop, (∃ m, W 0 m (upd H1 D (.lst []))) ∧ ∀ i m H, W i m H →
  (J.stop i H ∧ Q (.ref D) H) ∨ (J.go i H ∧ ∃ Nx : Hp → Prop, (∀ H', Nx H' → ∃ m', m' < m ∧ W (i + 1) m' H') ∧ ∀ x H', J.yld i H x H' → g x (wipe σ vs) H' fun σ2 H2 => wipe σ2 vs = wipe σ vs ∧ tt σ2 H2 fun b H3 =>
    if b = true then te σ2 H3 fun y H4 => ∃ acc, H4 D = some (.lst acc) ∧ acc.length < sizeLine ∧ Nx (upd H4 D (.lst (acc ++ [y]))) else Nx H3)
theorem v_lc {wi : TI} {tt : TT} {vs : List Nat} (h : wi σ H fun J H1 => LcQ J g tt te vs σ H1 Q) : tLc wi g tt te vs σ H Q := h
theorem v_yes {Q : Bool → Hp → Prop} (h : Q true H) : tYes σ H Q := h
/-- an element is put to the list at D -/
def LcA (D : Addr) (Nx : Hp → Prop) (y : V) (H4 : Hp) : Prop := ∃ acc, H4 D = some (.lst acc) ∧ acc.length < sizeLine ∧ Nx (upd H4 D (.lst (acc ++ [y])))
/-- what the turns of a comprehension keep: S, what else they change -/
def LcI (S : List Addr) (H0 : Hp) (D : Addr) (Pv : Nat → List V → Hp → Prop) (i : Nat) (H : Hp) : Prop := ∃ acc, Chg S H0 H ∧ H D = some (.lst acc) ∧ Pv i acc H
theorem v_lcA {S : List Addr} {H0 H1 H4 : Hp} {D : Addr} {Pv : Nat → List V → Hp → Prop} {i : Nat} {acc : List V} {y : V} (c0 : Chg S H0 H1) (hD : H1 D = some (.lst acc)) (nD : H0 D = none) (hS : D ∉ S) (c : Chg S H1 H4) (hl : acc.length < sizeLine)
    (h : ∀ H5, Chg [D] H4 H5 → Pv i (acc ++ [y]) H5) : LcA D (LcI S H0 D Pv i) y H4 := by
  have e := c.keep hD hS
  have c5 : Chg [D] H4 (upd H4 D (.lst (acc ++ [y]))) := Chg.set e (by intro _ z; cases z)
  refine ⟨acc, e, hl, acc ++ [y], (c0.trans c).trans' c5 ?_, upd_same, h _ c5⟩
  intro l hm
  rw [List.mem_singleton] at hm
  subst hm
  exact .inr nD
theorem v_lcN {S : List Addr} {H0 H1 H4 : Hp} {D : Addr} {Pv : Nat → List V → Hp → Prop} {i : Nat} {acc : List V} (c0 : Chg S H0 H1) (hD : H1 D = some (.lst acc)) (hS : D ∉ S) (c : Chg S H1 H4) (h : Pv i acc H4) : LcI S H0 D Pv i H4 :=
  ⟨acc, c0.trans c, c.keep hD hS, h⟩
theorem v_lc_list {a : Addr} {xs : List V} {tt : TT} {vs : List Nat} (S : List Addr) (Pv : Nat → List V → Hp → Prop) (hS : ∀ b ∈ S, H b ≠ none) (hl : ∀ H', Chg S H H' → SqL K H' a xs)
    (h0 : ∀ H', Chg [] H H' → Pv 0 [] H')
    (hs : ∀ D i x acc H1, xs[i]? = some x → H D = none → D ∉ S → Chg S H H1 → H1 D = some (.lst acc) → Pv i acc H1 → g x (wipe σ vs) H1 fun σ2 H2 => wipe σ2 vs = wipe σ vs ∧ tt σ2 H2 fun k H3 =>
      if k = true then te σ2 H3 fun y H4 => LcA D (LcI S H D Pv (i + 1)) y H4 else LcI S H D Pv (i + 1) H3)
    (hd : ∀ D acc H', Chg S H H' → H D = none → H' D = some (.lst acc) → Pv xs.length acc H' → Q (.ref D) H') : LcQ (Itl K a) g tt te vs σ H Q := by
  intro D hD
  have dS : D ∉ S := fun m => hS D m hD
  refine lc_list (xs := xs) (LcI S H D Pv) ⟨[], (Chg.new hD).of0, upd_same, h0 _ (.new hD)⟩ (fun i H1 _ ⟨_, c, _⟩ => hl _ c) (fun i x H1 hx ⟨acc, c, e, p⟩ => hs D i x acc H1 hx hD dS c e p) (fun H1 ⟨acc, c, e, p⟩ => hd D acc H1 c hD e p)
theorem v_lc_tup {a : Addr} {xs : List V} {tt : TT} {vs : List Nat} (S : List Addr) (Pv : Nat → List V → Hp → Prop) (hS : ∀ b ∈ S, H b ≠ none) (hl : ∀ H', Chg S H H' → SqT K H' a xs)
    (h0 : ∀ H', Chg [] H H' → Pv 0 [] H')
    (hs : ∀ D i x acc H1, xs[i]? = some x → H D = none → D ∉ S → Chg S H H1 → H1 D = some (.lst acc) → Pv i acc H1 → g x (wipe σ vs) H1 fun σ2 H2 => wipe σ2 vs = wipe σ vs ∧ tt σ2 H2 fun k H3 =>
      if k = true then te σ2 H3 fun y H4 => LcA D (LcI S H D Pv (i + 1)) y H4 else LcI S H D Pv (i + 1) H3)
    (hd : ∀ D acc H', Chg S H H' → H D = none → H' D = some (.lst acc) → Pv xs.length acc H' → Q (.ref D) H') : LcQ (Itt K a) g tt te vs σ H Q := by
  intro D hD
  have dS : D ∉ S := fun m => hS D m hD
  refine lc_tup (xs := xs) (LcI S H D Pv) ⟨[], (Chg.new hD).of0, upd_same, h0 _ (.new hD)⟩ (fun i H1 _ ⟨_, c, _⟩ => hl _ c) (fun i x H1 hx ⟨acc, c, e, p⟩ => hs D i x acc H1 hx hD dS c e p) (fun H1 ⟨acc, c, e, p⟩ => hd D acc H1 c hD e p)
theorem v_lc_range {lo : Int} {m : Nat} {tt : TT} {vs : List Nat} (S : List Addr) (Pv : Nat → List V → Hp → Prop) (hS : ∀ b ∈ S, H b ≠ none)
    (h0 : ∀ H', Chg [] H H' → Pv 0 [] H')
    (hs : ∀ D i acc H1, i < m → H D = none → D ∉ S → Chg S H H1 → H1 D = some (.lst acc) → Pv i acc H1 → g (.int (lo + i)) (wipe σ vs) H1 fun σ2 H2 => wipe σ2 vs = wipe σ vs ∧ tt σ2 H2 fun k H3 =>
      if k = true then te σ2 H3 fun y H4 => LcA D (LcI S H D Pv (i + 1)) y H4 else LcI S H D Pv (i + 1) H3)
    (hd : ∀ D acc H', Chg S H H' → H D = none → H' D = some (.lst acc) → Pv m acc H' → Q (.ref D) H') : LcQ (Itr lo m) g tt te vs σ H Q := by
  intro D hD
  have dS : D ∉ S := fun m => hS D m hD
  refine lc_range (LcI S H D Pv) ⟨[], (Chg.new hD).of0, upd_same, h0 _ (.new hD)⟩ (fun i H1 hi ⟨acc, c, e, p⟩ => hs D i acc H1 hi hD dS c e p) (fun H1 ⟨acc, c, e, p⟩ => hd D acc H1 c hD e p)
end
end RT

/-! ## 12. enumerate(list, start) -/
namespace PySem.F
open PySem
theorem rt_typeCall_enumerate_2 (a b : Value) : checkTypeCall "enumerate" ⟨[a, b], []⟩ = pure () := by kernel_rfl
theorem rt_newCall_enumerate_2 (a b : Value) : checkBuiltinCall "enumerate.__new__" ⟨[.type "enumerate", a, b], []⟩ = pure () := by kernel_rfl
end PySem.F
namespace PySem
open Sem (wp)
theorem rt_meets_enumerate {v1 : Value} {o1 : Obj} {H1 : Heap → Prop} (B1 : Begins v1 o1 H1) (k : Int) (t : Tok) (hk : Builtin.SmallTypes.fitsIndex k = true) :
    Meets (Builtin.«enumerate.__new__» ⟨[.type "enumerate", v1, .int k t], []⟩) (fun _ R s => H1 s.heap ∧
      R (.ok (.ret (.ref (s.heap.push o1).objs.size)))
        { s with heap := (s.heap.push o1).push { cls := .type "enumerate", data := .fields #[.none, .bool false, .ref s.heap.objs.size, rawInt k, .none, .none] } }) :=
  .of_wp fun prog w A R s h => by
    obtain ⟨hp, g, d, tk, os⟩ := s; obtain ⟨h1, h⟩ := h
    have hsub := sub_enumerate
    have q1 : ∀ {A' : Around} {E : Value → Shared → Prop} {Q : Value → Shared → Prop}, Q (.ref hp.objs.size) ⟨(hp.push o1), g, d, tk, os⟩ → wpAny (model prog w) A' (pyIter v1) Q E ⟨hp, g, d, tk, os⟩ :=
      fun q => B1.iter prog w _ _ ⟨hp, g, d, tk, os⟩ _ (B1.keeps _ _ h1 fun b o' e => e) q
    wp_walk using q1
    refine wpAny_stack_any fun st => wpAny_pure ?_
    split
    · rename_i c _ _ _ _ _
      cases (c == Value.type "enumerate")
      · wp_walk using q1
        try simp only [hk, Bool.not_true, Bool.false_eq_true, if_false]
        try wp_walk using q1
        exact ⟨_, rfl, h⟩
      · wp_walk using q1
        try simp only [hk, Bool.not_true, Bool.false_eq_true, if_false]
        try wp_walk using q1
        exact ⟨_, rfl, h⟩
    · wp_walk using q1
      try simp only [hk, Bool.not_true, Bool.false_eq_true, if_false]
      try wp_walk using q1
      exact ⟨_, rfl, h⟩
section
variable {prog : Program} {w : World} {A : Around} {E : Value → Shared → Prop} {s : Shared}
theorem rt_call_enumerate {v1 : Value} {o1 : Obj} {H1 : Heap → Prop} {k : Int} {t : Tok} {Q : Value → Shared → Prop} (B1 : Begins v1 o1 H1) (hk : Builtin.SmallTypes.fitsIndex k = true) (h1 : H1 s.heap)
    (h : ∀ h', IsEnum h' (s.heap.objs.size + 1) s.heap.objs.size k .none → h'.get? s.heap.objs.size = some o1 → h'.objs.size = s.heap.objs.size + 2 →
      (∀ b o, s.heap.get? b = some o → h'.get? b = some o) → Q (.ref (s.heap.objs.size + 1)) { s with heap := h' }) :
    wpAny (model prog w) A (call (.type "enumerate") [v1, .int k t]) Q E s := by
  refine callType_new F.called_enumerate (by decide) (F.rt_typeCall_enumerate_2 _ _) (F.rt_newCall_enumerate_2 _ _) (fun obj => F.args_object_init_3 obj _ _) F.entry_enumerate_new
    (rt_meets_enumerate B1 k t hk) ⟨h1, ?_⟩
  have hz : (s.heap.push o1).objs.size = s.heap.objs.size + 1 := Heap.size_push ..
  show _ ∧ _
  rw [hz]
  have he : IsEnum ((s.heap.push o1).push { cls := .type "enumerate", data := .fields #[.none, .bool false, .ref s.heap.objs.size, rawInt k, .none, .none] }) (s.heap.objs.size + 1) s.heap.objs.size k .none := by
    have := Heap.get?_push_size (s.heap.push o1)
      (o := { cls := .type "enumerate", data := .fields #[.none, .bool false, .ref s.heap.objs.size, rawInt k, .none, .none] }) rfl
    rw [hz] at this; exact this
  refine ⟨⟨_, he, rfl⟩, h _ he (Heap.get?_push_of_some _ (Heap.get?_push_size _ B1.free)) (by rw [Heap.size_push, hz]) fun b o x => Heap.get?_push_of_some _ (Heap.get?_push_of_some _ x)⟩
end
end PySem
namespace RT
open PySem PySem.Spec PyProof.Rows L2
/-! ### lists and tuples alike (tt: a tuple) -/
def SqB (K : PySem.W.Frag) (H : Hp) (b : Bool) (a : Addr) (xs : List V) : Prop := match b with
  | false => SqL K H a xs
  | true => SqT K H a xs
def ItB (b : Bool) (h : Heap) (it a : Addr) (i : Nat) : Prop := match b with
  | false => h.IsListIter it a i
  | true => h.IsTupleIter it a i
def ObB (b : Bool) (h : Heap) (a : Addr) (its : Array Value) : Prop := match b with
  | false => h.IsList a its
  | true => h.IsTuple a its
def itO (b : Bool) (a : Addr) : Obj := match b with
  | false => { cls := .type "list_iterator", data := .fields #[.ref a, .int 0 0] }
  | true => { cls := .type "tuple_iterator", data := .fields #[.ref a, .int 0 0] }
theorem itO_at {b : Bool} {h : Heap} {it a : Addr} (e : h.get? it = some (itO b a)) : ItB b h it a 0 := by
  cases b
  · exact ⟨_, e, rfl, rfl⟩
  · exact ⟨_, e, rfl, rfl⟩
theorem ItB.obj {b : Bool} {h : Heap} {it a : Addr} {i : Nat} (x : ItB b h it a i) : ∃ o, h.get? it = some o ∧ ∀ v, o.data ≠ .cell v := by
  cases b
  · obtain ⟨o, e, _, d⟩ := x
    exact ⟨o, e, fun v z => by rw [d] at z; cases z⟩
  · obtain ⟨o, e, _, d⟩ := x
    exact ⟨o, e, fun v z => by rw [d] at z; cases z⟩
theorem ItB.at' {b : Bool} {h h' : Heap} {it a : Addr} {i : Nat} (x : ItB b h it a i) (k : ∀ o, h.get? it = some o → h'.get? it = some o) : ItB b h' it a i := by
  cases b
  · exact Heap.IsListIter.at x k
  · exact Heap.IsTupleIter.at x k
theorem ItB.lt {b : Bool} {h : Heap} {it a : Addr} {i : Nat} (x : ItB b h it a i) : it < h.objs.size := by
  obtain ⟨o, e, _⟩ := x.obj
  exact Heap.lt_size e
theorem ObB.lt {b : Bool} {h : Heap} {a : Addr} {its : Array Value} (x : ObB b h a its) : a < h.objs.size := by
  cases b
  · obtain ⟨o, e, _⟩ := x
    exact Heap.lt_size e
  · obtain ⟨o, e, _⟩ := x
    exact Heap.lt_size e
theorem begB (b : Bool) (a : Addr) (its : Array Value) : Begins (.ref a) (itO b a) (fun h => ObB b h a its) := by
  cases b
  · exact begins_list a its
  · exact begins_tuple a its
theorem drawB {prog : Program} {w : World} {A : Around} (hh : A.handled = none) (b : Bool) (it a : Addr) (hne : a ≠ it) (its : Array Value) :
    Draws prog w A it [it, a] its.size (fun i v => its[i]? = some v) (fun i h => ItB b h it a i ∧ ObB b h a its) := by
  cases b
  · exact Draws.list hh it a hne its
  · exact Draws.tuple hh it a hne its
theorem SqB.inv {X : Cx} {pins : List (Addr × Obj)} {σ : L2.St} {H : Hp} {s : Shared} {b : Bool} {a : Addr} {xs : List V} (I : L2.Inv X pins σ H s) (h : SqB X.K H b a xs) : ∃ its : List Value, Vals xs its ∧ ObB b s.heap a its.toArray := by
  cases b
  · obtain ⟨its, rv, p, _⟩ := I.list h
    exact ⟨its, rv, p.isList⟩
  · obtain ⟨its, rv, p, _⟩ := I.tuple h
    exact ⟨its, rv, p⟩
theorem SqB.inj {X : Cx} {pins : List (Addr × Obj)} {σ : L2.St} {H : Hp} {s : Shared} {b : Bool} {a : Addr} {xs ys : List V} (I : L2.Inv X pins σ H s) (h : SqB X.K H b a xs) (h' : SqB X.K H b a ys) : xs = ys := by
  cases b
  · exact I.list_inj h h'
  · exact I.tuple_inj h h'
theorem Itn.eq {α : Type} {l : List α} {i : Nat} (h : ¬ i < l.length) : l[i]? = none := by simpa using h
/-! ### enumerate(x, k) -/
def IteS (K : PySem.W.Frag) (b : Bool) (a : Addr) (k : Int) : It :=
  ⟨fun i H => ∃ (xs : List V) (x : V), SqB K H b a xs ∧ xs[i]? = some x, fun i H v H' => ∃ T x, v = .ref T ∧ H T = none ∧ H' = upd H T (.tup [.int (k + (i : Nat)), x]) ∧ ∀ xs, SqB K H b a xs → xs[i]? = some x, fun i H => ∃ xs : List V, SqB K H b a xs ∧ xs.length = i⟩
theorem turn_enumS {P : Program} {w : World} {K : PySem.W.Frag} {elts : List Expr} {kk : Nat} {tpos : Pos} (b : Bool) (a e it : Addr) (k0 : Int) (hae : a ≠ e) (hai : a ≠ it) (hei : e ≠ it) :
    Turn P w K (.Tuple elts kk tpos) (IteS K b a k0) [e, it] e (fun i h => (∃ old, IsEnum h e it (k0 + ((i : Nat) : Int)) old) ∧ ItB b h it a i) where
  mem := by simp
  obj := fun i h st c hc => by
    obtain ⟨⟨old, he⟩, hit⟩ := st
    have e' : c = e ∨ c = it := by simpa using hc
    rcases e' with z | z
    · rw [z]; exact ⟨_, he, fun v q => nomatch q⟩
    · rw [z]; exact hit.obj
  keep := fun i h h' st k => let ⟨⟨old, he⟩, hi⟩ := st; ⟨⟨old, k e (by simp) _ he⟩, hi.at' fun o q => k it (by simp) o q⟩
  item := by
    intro X hP hw hK hc i pins s σ H E I hf st hg
    subst hP hw hK
    obtain ⟨⟨old, he⟩, hit⟩ := st
    obtain ⟨xs, x, hq, hx⟩ := hg
    obtain ⟨its, rv, p⟩ := hq.inv I
    obtain ⟨u, hu, ru⟩ := rv.get hx
    have hi : i < its.toArray.size := by
      have := (List.getElem?_eq_some_iff.mp hu).1
      simpa using this
    have hel : e < s.heap.objs.size := Heap.lt_size he
    have hil := hit.lt
    refine wpAny_pyNext_enum_itemC (drawB (A := X.A.in1) (show X.A.in1.handled = none from I.ok.hd hc) b it a hai its.toArray) he ⟨hit, p⟩ hi hei (by simp [hei, Ne.symm hae]) fun u' h' tk hu' ho st' hT hsz hk => ?_
    have eu : u' = u := by
      have : its[i]? = some u' := by simpa using hu'
      rw [hu] at this
      exact (Option.some.inj this).symm
    subst eu
    refine ⟨_, rfl, wpAny_letOwnedTupleGo_enum (s := { s with heap := h', toks := tk + 1 }) ho fun h'' he' sb => ?_⟩
    have hT2 : h''.get? s.heap.objs.size = some { cls := .type "tuple", data := .seq #[.int (k0 + i) tk, u'] } := (sb.2 _ (Nat.ne_of_gt hel)).trans hT
    have new : ObjOk X.prog X.w (upd H s.heap.objs.size (.tup [.int (k0 + (i : Nat)), x])) h'' s.heap.objs.size (.tup [.int (k0 + (i : Nat)), x]) :=
      ⟨by show 2 ≤ sizeLine; decide, [.int (k0 + i) tk, u'], .cons ⟨_, rfl⟩ (.cons ru .nil), ⟨_, hT2, rfl, _, rfl⟩⟩
    have I1 : L2.Inv X pins σ (upd H s.heap.objs.size (.tup [.int (k0 + (i : Nat)), x])) { s with heap := h'', toks := tk + 1 } :=
      I.turnedNew (ch := [e, it]) (fun c ob hb q => (sb.2 c (fun z => hb (by simp [z]))).trans (hk c ob (fun z => hb (by simp [z])) (fun z => hb (by simp [z])) q)) hf (Nat.le_refl _) new
    refine ⟨.ref s.heap.objs.size, _, I1, rfl, ⟨_, x, rfl, I.hok.fresh (Nat.le_refl _), rfl, fun ys hy => by rw [hy.inj I hq]; exact hx⟩, ⟨⟨u', ?_⟩, st'.1.at' fun o q => (sb.2 it (Ne.symm hei)).trans q⟩, fun c hb => ?_⟩
    · have e1 : k0 + ((i + 1 : Nat) : Int) = k0 + (i : Int) + 1 := by omega
      rw [e1]; exact he'
    · have hb' : c < s.heap.objs.size := by
        have e' : c = e ∨ c = it := by simpa using hb
        rcases e' with z | z
        · rw [z]; exact hel
        · rw [z]; exact hil
      rw [upd_ne (Nat.ne_of_lt hb')]
      exact (hf c hb).1
  done := by
    intro X hP hw hK hc i pins s σ H E I hf st hg
    subst hP hw hK
    obtain ⟨⟨old, he⟩, hit⟩ := st
    obtain ⟨xs, hq, hx⟩ := hg
    obtain ⟨its, rv, p⟩ := hq.inv I
    obtain ⟨f0, f1, f2, f3, f4, f5⟩ := hf it (by simp)
    have hl := rv.length
    have hi : its.toArray.size = i := by simp; omega
    refine wpAny_pyNext_enum_endD (drawB (A := X.A.in1) (show X.A.in1.handled = none from I.ok.hd hc) b it a hai its.toArray) he (by rw [hi]; exact ⟨hit, p⟩) fun h' eb => ⟨rfl, I.turned (t' := s.toks) (fun c o hb q => eb c o hb q) f0 f1 f3 f4 f5⟩
  self := fun A i s Q E st h => let ⟨⟨_, he⟩, _⟩ := st; wpAny_pyIter_enum he h
def EnumS (K : PySem.W.Frag) (vs : List V) (H : Hp) (R : It → Hp → Prop) : Prop := ∃ (b : Bool) (a : Addr) (k : Int), vs = [.ref a, .int k] ∧ (-(2 ^ 62) ≤ k ∧ k < 2 ^ 62) ∧ (∃ xs, SqB K H b a xs) ∧ R (IteS K b a k) H
def iEnumS (K : PySem.W.Frag) (ta : TA) : TI := fun σ H R => ta σ H fun vs H1 => EnumS K vs H1 R
theorem pi_enumS {X : Cx} {K : PySem.W.Frag} {e e2 : Expr} {ta : TA} {p pos tpos : Pos} {elts : List Expr} {kk : Nat} (hg : Gl X "enumerate") (hm : X.mg "enumerate" = none) (ha : PA X [e, e2] ta)
    (hs : starEach [e, e2] X.env = (false, eval e X.env) :: starEach [e2] X.env := by rfl) (hpl : (backTo pos (starEach [e2] X.env)).any (·.1) = false := by rfl) (hK : X.K = K := by rfl) :
    PI X (.Tuple elts kk tpos) (.Call (.Name "enumerate" p) [e, e2] [] pos) (iEnumS K ta) := by
  subst hK
  refine ⟨fun pins s σ H R I h => ?_⟩
  refine Call_ (ld_blt I hg hm boot_enumerate (PyProof.Rows.callWith_type1 (thn (ha.run pos pins s σ H _ I h) fun us s1 ⟨vs, H1, I1, r1, q1⟩ => ?_) hs hpl))
  obtain ⟨b, a, k, ex, ⟨k0, k1⟩, ⟨xs, hq⟩, q⟩ := q1
  subst ex
  obtain ⟨u1, u2, rfl, r1, r2⟩ := Vals.two r1
  obtain rfl : u1 = Value.ref a := r1
  obtain ⟨t, rfl⟩ := r2
  obtain ⟨its, rv, p'⟩ := hq.inv I1
  have hk : Builtin.SmallTypes.fitsIndex k = true := by
    unfold Builtin.SmallTypes.fitsIndex
    simp only [Bool.and_eq_true, decide_eq_true_eq]
    omega
  have la := p'.lt
  refine rt_call_enumerate (begB b a its.toArray) hk p' fun h' he hit hsz hk => wpAny_pyIter_enum he ?_
  have I2 : L2.Inv X pins σ H1 { s1 with heap := h' } := I1.kept (t' := s1.toks) hk
  refine ⟨s1.heap.objs.size + 1, [s1.heap.objs.size + 1, s1.heap.objs.size], _, _, H1, rfl, I2, turn_enumS b a (s1.heap.objs.size + 1) s1.heap.objs.size k (by show (a : Nat) ≠ _; have := la; exact Nat.ne_of_lt (Nat.lt_succ_of_lt la)) (Nat.ne_of_lt la) (Nat.succ_ne_self _), ⟨⟨.none, ?_⟩, itO_at hit⟩, fun c hb => ?_, q⟩
  · rw [show k + ((0 : Nat) : Int) = k by omega]; exact he
  have e' : c = s1.heap.objs.size + 1 ∨ c = s1.heap.objs.size := by simpa using hb
  have hle : s1.heap.objs.size ≤ c := by
    rcases e' with z | z
    · rw [z]; exact Nat.le_add_right _ _
    · rw [z]; exact Nat.le_refl _
  exact I1.fpOk hle (I1.hok.fresh hle)
theorem v_enumS {K : PySem.W.Frag} {ta : TA} {σ : L2.St} {H : Hp} {R : It → Hp → Prop} (h : ta σ H fun vs H1 => EnumS K vs H1 R) : iEnumS K ta σ H R := h
theorem v_enumS_l {K : PySem.W.Frag} {H : Hp} {R : It → Hp → Prop} {a : Addr} {k : Int} {xs : List V} (hl : SqL K H a xs) (h0 : -(2 ^ 62) ≤ k) (h1 : k < 2 ^ 62) (h : R (IteS K false a k) H) : EnumS K [.ref a, .int k] H R := ⟨false, a, k, rfl, ⟨h0, h1⟩, ⟨xs, hl⟩, h⟩
theorem v_enumS_t {K : PySem.W.Frag} {H : Hp} {R : It → Hp → Prop} {a : Addr} {k : Int} {xs : List V} (hl : SqT K H a xs) (h0 : -(2 ^ 62) ≤ k) (h1 : k < 2 ^ 62) (h : R (IteS K true a k) H) : EnumS K [.ref a, .int k] H R := ⟨true, a, k, rfl, ⟨h0, h1⟩, ⟨xs, hl⟩, h⟩
section
variable {g : TG} {tb : TS} {n : L2.St → Hp → Prop} {r : VK} {b c : L2.St → Hp → Prop} {σ : L2.St} {H : Hp} {K : PySem.W.Frag}
theorem v_for_enumS {tt : Bool} {a : Addr} {k : Int} {xs : List V} (Pv : Nat → L2.St → Hp → Prop) (h0 : Pv 0 σ H) (hl : ∀ i σ H, i ≤ xs.length → Pv i σ H → SqB K H tt a xs)
    (hs : ∀ i x σ H t H', xs[i]? = some x → Pv i σ H → H t = none → Chg [] H H' → H' t = some (.tup [.int (k + (i : Nat)), x]) → g (.ref t) σ H' fun σ2 H2 => tb ⟨Pv (i + 1), r, n, Pv (i + 1)⟩ σ2 H2)
    (hd : ∀ σ H, Pv xs.length σ H → n σ H) : ForQ (IteS K tt a k) g tb ⟨n, r, b, c⟩ σ H := by
  refine ⟨fun i m σ H => Pv i σ H ∧ i + m = xs.length, ⟨xs.length, h0, by omega⟩, ?_⟩
  rintro i m σ H ⟨hp, hm⟩
  have hq := hl i σ H (by omega) hp
  by_cases hi : i < xs.length
  · refine .inr ⟨⟨xs, xs[i], hq, List.getElem?_eq_getElem hi⟩, Pv (i + 1), fun σ' H' h => ⟨m - 1, by omega, h, by omega⟩, ?_⟩
    rintro v H' ⟨T, x, rfl, hT, rfl, hx⟩
    exact hs i x σ H T _ (hx xs hq) hp hT (.new hT) upd_same
  · have e : i = xs.length := by omega
    subst e
    exact .inl ⟨⟨xs, hq, rfl⟩, hd σ H hp⟩
end
/-! ### zip(x, y) -/
def ItzB (K : PySem.W.Frag) (b1 b2 : Bool) (a1 a2 : Addr) : It :=
  ⟨fun i H => ∃ (xs ys : List V) (x y : V), SqB K H b1 a1 xs ∧ SqB K H b2 a2 ys ∧ xs[i]? = some x ∧ ys[i]? = some y,
    fun i H v H' => ∃ T x y, v = .ref T ∧ H T = none ∧ H' = upd H T (.tup [x, y]) ∧ (∀ xs, SqB K H b1 a1 xs → xs[i]? = some x) ∧ ∀ ys, SqB K H b2 a2 ys → ys[i]? = some y,
    fun i H => ∃ xs ys : List V, SqB K H b1 a1 xs ∧ SqB K H b2 a2 ys ∧ i ≤ xs.length ∧ i ≤ ys.length ∧ (i = xs.length ∨ i = ys.length)⟩
theorem sep2_of {z TI TO i1 i2 a b : Addr} (D : ZipApart z TI TO i1 i2 a b) : ZipSep2 z TI TO i1 i2 [i1, a] [i2, b] := by
  obtain ⟨⟩ := D
  constructor <;> (try simp only [List.mem_cons, List.not_mem_nil, or_false, not_or]) <;> (try constructor) <;> first | assumption | (apply Ne.symm; assumption) | simp
theorem turn_zipB {P : Program} {w : World} {K : PySem.W.Frag} {elts : List Expr} {kk : Nat} {tpos : Pos} {b1 b2 : Bool} {a b z TI TO i1 i2 : Addr} (D : ZipApart z TI TO i1 i2 a b) :
    Turn P w K (.Tuple elts kk tpos) (ItzB K b1 b2 a b) [z, TI, TO, i1, i2] z (fun i h => IsZip h z TI TO .none ∧ IsTupOf2 h TI (.ref i1) (.ref i2) ∧ (∃ x y, IsTupOf2 h TO x y) ∧ ItB b1 h i1 a i ∧ ItB b2 h i2 b i) where
  mem := by simp
  obj := fun i h st c hc => by
    obtain ⟨hz, hTI, ⟨x, y, hTO⟩, h1, h2⟩ := st
    have e' : c = z ∨ c = TI ∨ c = TO ∨ c = i1 ∨ c = i2 := by simpa using hc
    rcases e' with q | q | q | q | q
    · rw [q]; exact ⟨_, hz, fun v q => nomatch q⟩
    · rw [q]; exact ⟨_, hTI, fun v q => nomatch q⟩
    · rw [q]; exact ⟨_, hTO, fun v q => nomatch q⟩
    · rw [q]; exact h1.obj
    · rw [q]; exact h2.obj
  keep := fun i h h' st k => by
    obtain ⟨hz, hTI, ⟨x, y, hTO⟩, h1, h2⟩ := st
    exact ⟨k z (by simp) _ hz, k TI (by simp) _ hTI, ⟨x, y, k TO (by simp) _ hTO⟩, h1.at' fun o q => k i1 (by simp) o q, h2.at' fun o q => k i2 (by simp) o q⟩
  item := by
    intro X hP hw hK hc i pins s σ H E I hf st hg
    subst hP hw hK
    obtain ⟨hz, hTI, ⟨x0, y0, hTO⟩, h1, h2⟩ := st
    obtain ⟨xs, ys, x, y, hqx, hqy, hx, hy⟩ := hg
    obtain ⟨its, rv, p⟩ := hqx.inv I
    obtain ⟨its2, rv2, p2⟩ := hqy.inv I
    obtain ⟨u, hu, ru⟩ := rv.get hx
    obtain ⟨u2, hu2, ru2⟩ := rv2.get hy
    have hzl : z < s.heap.objs.size := Heap.lt_size hz
    have hi1 : i < its.toArray.size := by have := (List.getElem?_eq_some_iff.mp hu).1; simpa using this
    have hi2 : i < its2.toArray.size := by have := (List.getElem?_eq_some_iff.mp hu2).1; simpa using this
    have la := p.lt
    have lb := p2.lt
    refine wpAny_pyNext_zipD2_item (sep2_of D) (drawB (A := X.A.in1) (show X.A.in1.handled = none from I.ok.hd hc) b1 i1 a D.l1i1 its.toArray) (drawB (A := X.A.in1) (show X.A.in1.handled = none from I.ok.hd hc) b2 i2 b D.l2i2 its2.toArray) hz hTI hTO ⟨h1, p⟩ ⟨h2, p2⟩ hi1 hi2 fun u' u2' h' tk hu' hu2' z' TO' st1 st2 hT hsz hk => ?_
    have eu : u' = u := by
      have : its[i]? = some u' := by simpa using hu'
      rw [hu] at this
      exact (Option.some.inj this).symm
    have eu2 : u2' = u2 := by
      have : its2[i]? = some u2' := by simpa using hu2'
      rw [hu2] at this
      exact (Option.some.inj this).symm
    subst eu eu2
    refine ⟨_, rfl, wpAny_letOwnedTupleGo_zip (s := { s with heap := h', toks := tk }) z' fun h'' z'' sb => ?_⟩
    have hT2 : h''.get? s.heap.objs.size = some { cls := .type "tuple", data := .seq #[u', u2'] } := (sb.2 _ (Nat.ne_of_gt hzl)).trans hT
    have new : ObjOk X.prog X.w (upd H s.heap.objs.size (.tup [x, y])) h'' s.heap.objs.size (.tup [x, y]) :=
      ⟨by show 2 ≤ sizeLine; decide, [u', u2'], .cons ru (.cons ru2 .nil), ⟨_, hT2, rfl, _, rfl⟩⟩
    have I1 : L2.Inv X pins σ (upd H s.heap.objs.size (.tup [x, y])) { s with heap := h'', toks := tk } :=
      I.turnedNew (t' := tk) (ch := [z, TI, TO, i1, i2]) (fun c o hb q => (sb.2 c (fun q' => hb (by simp [q']))).trans (hk c o (fun q' => hb (by simp [q'])) (fun q' => hb (by simp [q'])) (fun q' => hb (by simp [q'])) (fun q' => hb (by simp [q'])) q)) hf (Nat.le_refl _) new
    refine ⟨.ref s.heap.objs.size, _, I1, rfl, ⟨_, x, y, rfl, I.hok.fresh (Nat.le_refl _), rfl, fun l hl => by rw [hl.inj I hqx]; exact hx, fun l hl => by rw [hl.inj I hqy]; exact hy⟩, ⟨z'', ?_, ⟨u', u2', ?_⟩, ?_, ?_⟩, fun c hcm => ?_⟩
    · exact (sb.2 _ D.TIz).trans (hk _ _ D.TIz D.TITO D.TIi1 D.TIi2 hTI)
    · exact (sb.2 _ D.TOz).trans TO'
    · exact st1.1.at' fun o q => (sb.2 _ D.i1z).trans q
    · exact st2.1.at' fun o q => (sb.2 _ D.i2z).trans q
    · have hlt : c < s.heap.objs.size := by
        have e' : c = z ∨ c = TI ∨ c = TO ∨ c = i1 ∨ c = i2 := by simpa using hcm
        rcases e' with q | q | q | q | q
        · rw [q]; exact hzl
        · rw [q]; exact Heap.lt_size hTI
        · rw [q]; exact Heap.lt_size hTO
        · rw [q]; exact h1.lt
        · rw [q]; exact h2.lt
      rw [upd_ne (Nat.ne_of_lt hlt)]
      exact (hf c hcm).1
  done := by
    intro X hP hw hK hc i pins s σ H E I hf st hg
    subst hP hw hK
    obtain ⟨hz, hTI, ⟨x0, y0, hTO⟩, h1, h2⟩ := st
    obtain ⟨xs, ys, hqx, hqy, l1, l2, hend⟩ := hg
    obtain ⟨its, rv, p⟩ := hqx.inv I
    obtain ⟨its2, rv2, p2⟩ := hqy.inv I
    have e1 := rv.length
    have e2 := rv2.length
    exact wpAny_pyNext_zipD2_end (sep2_of D) (drawB (A := X.A.in1) (show X.A.in1.handled = none from I.ok.hd hc) b1 i1 a D.l1i1 its.toArray) (drawB (A := X.A.in1) (show X.A.in1.handled = none from I.ok.hd hc) b2 i2 b D.l2i2 its2.toArray) hz hTI hTO ⟨h1, p⟩ ⟨h2, p2⟩ (by simp; omega) (by simp; omega) (by simp; omega)
      fun h' tk hk => ⟨rfl, I.turnedL (t' := tk) (ch := [z, TI, TO, i1, i2]) (fun c o hb q => hk c o (fun q' => hb (by simp [q'])) (fun q' => hb (by simp [q'])) (fun q' => hb (by simp [q'])) (fun q' => hb (by simp [q'])) q) hf⟩
  self := fun A i s Q E st h => wpAny_pyIter_zip st.1 h
def ZipB (K : PySem.W.Frag) (vs : List V) (H : Hp) (R : It → Hp → Prop) : Prop := ∃ (b1 b2 : Bool) (a b : Addr), vs = [.ref a, .ref b] ∧ (∃ xs, SqB K H b1 a xs) ∧ (∃ ys, SqB K H b2 b ys) ∧ R (ItzB K b1 b2 a b) H
def iZipB (K : PySem.W.Frag) (ta : TA) : TI := fun σ H R => ta σ H fun vs H1 => ZipB K vs H1 R
theorem pi_zipB {X : Cx} {K : PySem.W.Frag} {e e2 : Expr} {ta : TA} {p pos tpos : Pos} {elts : List Expr} {kk : Nat} (hg : Gl X "zip") (hm : X.mg "zip" = none) (ha : PA X [e, e2] ta)
    (hs : starEach [e, e2] X.env = (false, eval e X.env) :: starEach [e2] X.env := by rfl) (hpl : (backTo pos (starEach [e2] X.env)).any (·.1) = false := by rfl) (hK : X.K = K := by rfl) :
    PI X (.Tuple elts kk tpos) (.Call (.Name "zip" p) [e, e2] [] pos) (iZipB K ta) := by
  subst hK
  refine ⟨fun pins s σ H R I h => ?_⟩
  refine Call_ (ld_blt I hg hm PyProof.Rows.boot_zip (PyProof.Rows.callWith_type1 (thn (ha.run pos pins s σ H _ I h) fun us s1 ⟨vs, H1, I1, r1, q1⟩ => ?_) hs hpl))
  obtain ⟨b1, b2, a, b, ex, ⟨xs, hqx⟩, ⟨ys, hqy⟩, q⟩ := q1
  subst ex
  obtain ⟨u1, u2, rfl, r1, r2⟩ := Vals.two r1
  obtain rfl : u1 = Value.ref a := r1
  obtain rfl : u2 = Value.ref b := r2
  obtain ⟨its, rv, p1⟩ := hqx.inv I1
  obtain ⟨its2, rv2, p2⟩ := hqy.inv I1
  have la := p1.lt
  have lb := p2.lt
  refine zip_begins2 (begB b1 a its.toArray) (begB b2 b its2.toArray) p1 p2 fun h' hz hTI hTO h1 h2 hsz hk => wpAny_pyIter_zip hz ?_
  have I2 : L2.Inv X pins σ H1 { s1 with heap := h' } := I1.kept (t' := s1.toks) hk
  refine ⟨s1.heap.objs.size + 4, [s1.heap.objs.size + 4, s1.heap.objs.size + 2, s1.heap.objs.size + 3, s1.heap.objs.size, s1.heap.objs.size + 1], _, _, H1, rfl, I2, turn_zipB (PySem.W.ktu_apart s1.heap.objs.size a b la lb), ⟨hz, hTI, ⟨_, _, hTO⟩, itO_at h1, itO_at h2⟩, fun c hcm => ?_, q⟩
  have e' : c = s1.heap.objs.size + 4 ∨ c = s1.heap.objs.size + 2 ∨ c = s1.heap.objs.size + 3 ∨ c = s1.heap.objs.size ∨ c = s1.heap.objs.size + 1 := by simpa using hcm
  have hle : s1.heap.objs.size ≤ c := by
    rcases e' with z | z | z | z | z
    · rw [z]; exact Nat.le_add_right _ _
    · rw [z]; exact Nat.le_add_right _ _
    · rw [z]; exact Nat.le_add_right _ _
    · rw [z]; exact Nat.le_refl _
    · rw [z]; exact Nat.le_add_right _ _
  exact I1.fpOk hle (I1.hok.fresh hle)
theorem v_zipB {K : PySem.W.Frag} {ta : TA} {σ : L2.St} {H : Hp} {R : It → Hp → Prop} (h : ta σ H fun vs H1 => ZipB K vs H1 R) : iZipB K ta σ H R := h
theorem v_zip_ll {K : PySem.W.Frag} {H : Hp} {R : It → Hp → Prop} {a b : Addr} {xs ys : List V} (h1 : SqL K H a xs) (h2 : SqL K H b ys) (h : R (ItzB K false false a b) H) : ZipB K [.ref a, .ref b] H R := ⟨false, false, a, b, rfl, ⟨xs, h1⟩, ⟨ys, h2⟩, h⟩
theorem v_zip_tt {K : PySem.W.Frag} {H : Hp} {R : It → Hp → Prop} {a b : Addr} {xs ys : List V} (h1 : SqT K H a xs) (h2 : SqT K H b ys) (h : R (ItzB K true true a b) H) : ZipB K [.ref a, .ref b] H R := ⟨true, true, a, b, rfl, ⟨xs, h1⟩, ⟨ys, h2⟩, h⟩
theorem v_zip_lt {K : PySem.W.Frag} {H : Hp} {R : It → Hp → Prop} {a b : Addr} {xs ys : List V} (h1 : SqL K H a xs) (h2 : SqT K H b ys) (h : R (ItzB K false true a b) H) : ZipB K [.ref a, .ref b] H R := ⟨false, true, a, b, rfl, ⟨xs, h1⟩, ⟨ys, h2⟩, h⟩
section
variable {g : TG} {tb : TS} {n : L2.St → Hp → Prop} {r : VK} {b c : L2.St → Hp → Prop} {σ : L2.St} {H : Hp} {K : PySem.W.Frag}
theorem v_for_zipB {b1 b2 : Bool} {a1 a2 : Addr} {xs ys : List V} (Pv : Nat → L2.St → Hp → Prop) (h0 : Pv 0 σ H) (hl : ∀ i σ H, Pv i σ H → SqB K H b1 a1 xs ∧ SqB K H b2 a2 ys)
    (hs : ∀ i x y σ H t H', xs[i]? = some x → ys[i]? = some y → Pv i σ H → H t = none → Chg [] H H' → H' t = some (.tup [x, y]) → g (.ref t) σ H' fun σ2 H2 => tb ⟨Pv (i + 1), r, n, Pv (i + 1)⟩ σ2 H2)
    (hd : ∀ σ H, Pv (min xs.length ys.length) σ H → n σ H) : ForQ (ItzB K b1 b2 a1 a2) g tb ⟨n, r, b, c⟩ σ H := by
  refine ⟨fun i m σ H => Pv i σ H ∧ i + m = min xs.length ys.length, ⟨_, h0, Nat.zero_add _⟩, ?_⟩
  rintro i m σ H ⟨hp, hm⟩
  obtain ⟨hq1, hq2⟩ := hl i σ H hp
  by_cases hi : i < min xs.length ys.length
  · refine .inr ⟨⟨xs, ys, xs[i]'(by omega), ys[i]'(by omega), hq1, hq2, List.getElem?_eq_getElem (by omega), List.getElem?_eq_getElem (by omega)⟩, Pv (i + 1), fun σ' H' h => ⟨m - 1, by omega, h, by omega⟩, ?_⟩
    rintro v H' ⟨T, x, y, rfl, hT, rfl, hx, hy⟩
    exact hs i x y σ H T _ (hx xs hq1) (hy ys hq2) hp hT (.new hT) upd_same
  · have e : i = min xs.length ys.length := by omega
    exact .inl ⟨⟨xs, ys, hq1, hq2, by omega, by omega, by omega⟩, by subst e; exact hd σ H hp⟩
end
end RT

namespace RT
open PySem PySem.Spec PyProof.Rows L2
/-! ## 14. texts -/
theorem ofString_inj {a b : String} : (Str.ofString a = Str.ofString b) = (a = b) := by
  apply propext
  constructor
  · intro h
    have h1 : (cpsOfBytes 0 0 a.toByteArray.data.toList).toArray = (cpsOfBytes 0 0 b.toByteArray.data.toList).toArray := congrArg Str.cps h
    have h2 := congrArg Array.toList h1
    rw [cpsOfBytes_string, cpsOfBytes_string] at h2
    have h3 : a.toList = b.toList := (List.map_inj_right (fun x y e => Char.toNat_inj.mp e)).mp h2
    exact String.toList_inj.mp h3
  · rintro rfl; rfl
theorem ofString_cps (a : String) : (Str.ofString a).cps.toList = a.toList.map Char.toNat := by
  show (cpsOfBytes 0 0 a.toByteArray.data.toList).toArray.toList = _
  rw [← cpsOfBytes_string]
/-! ## 15. data: tuples of what never changes -/
inductive D where
  | non
  | bl (b : Bool)
  | int (i : Int)
  | str (s : Str)
  | tup (xs : List D)
mutual
def D.py : D → PyData
  | .non => .none
  | .bl b => .bool b
  | .int i => .int i
  | .str s => .str s
  | .tup xs => .tuple (D.pys xs)
def D.pys : List D → List PyData
  | [] => []
  | x :: xs => x.py :: D.pys xs
end
theorem D.pys_eq : ∀ xs : List D, D.pys xs = xs.map D.py
  | [] => rfl
  | x :: xs => by rw [D.pys, D.pys_eq xs]; rfl
mutual
def D.dep : D → Nat
  | .tup xs => D.deps xs + 1
  | _ => 0
def D.deps : List D → Nat
  | [] => 0
  | x :: xs => max x.dep (D.deps xs)
end
mutual
theorem D.depth_py : ∀ d : D, PyData.depth d.py = d.dep
  | .non => rfl
  | .bl _ => rfl
  | .int _ => rfl
  | .str _ => rfl
  | .tup xs => by rw [D.py, PyData.depth, D.dep, D.depth_pys xs]
theorem D.depth_pys : ∀ xs : List D, PyData.depthAll (D.pys xs) = D.deps xs
  | [] => rfl
  | x :: xs => by rw [D.pys, PyData.depthAll, D.deps, D.depth_py x, D.depth_pys xs]
end
theorem D.deps_le {xs : List D} {n : Nat} (h : ∀ x ∈ xs, x.dep ≤ n) : D.deps xs ≤ n := by
  induction xs with
  | nil => exact Nat.zero_le _
  | cons x xs ih =>
    rw [D.deps]
    have h1 := h x List.mem_cons_self
    have h2 := ih fun y hy => h y (List.mem_cons_of_mem _ hy)
    omega
theorem D.dep_mem {xs : List D} {x : D} (h : x ∈ xs) : x.dep ≤ D.deps xs := by
  induction xs with
  | nil => cases h
  | cons y xs ih =>
    rw [D.deps]
    rcases List.mem_cons.mp h with rfl | h
    · omega
    · have := ih h; omega
/-! v stands for d -/
mutual
inductive Rp (H : Hp) : V → D → Prop
  | non : Rp H .non .non
  | bl (b : Bool) : Rp H (.bl b) (.bl b)
  | int (i : Int) : Rp H (.int i) (.int i)
  | str {s : Str} (h : PyData.strOk s = true) : Rp H (.str s) (.str s)
  | tup {a : Addr} {xs : List V} {ds : List D} : H a = some (.tup xs) → RpA H xs ds → Rp H (.ref a) (.tup ds)
inductive RpA (H : Hp) : List V → List D → Prop
  | nil : RpA H [] []
  | cons {x : V} {xs : List V} {d : D} {ds : List D} : Rp H x d → RpA H xs ds → RpA H (x :: xs) (d :: ds)
end
mutual
theorem Rp.chg {S : List Addr} {H H' : Hp} (c : Chg S H H') : ∀ (d : D) (v : V), Rp H v d → Rp H' v d
  | .non, _, h => by cases h; exact .non
  | .bl b, _, h => by cases h; exact .bl b
  | .int i, _, h => by cases h; exact .int i
  | .str s, _, h => by cases h with | str h => exact .str h
  | .tup ds, _, h => by cases h with | tup e r => exact .tup (c.tup e) (RpA.chg c ds _ r)
theorem RpA.chg {S : List Addr} {H H' : Hp} (c : Chg S H H') : ∀ (ds : List D) (xs : List V), RpA H xs ds → RpA H' xs ds
  | [], _, h => by cases h; exact .nil
  | d :: ds, _, h => by cases h with | cons r t => exact .cons (Rp.chg c d _ r) (RpA.chg c ds _ t)
end
theorem Rp.on {S : List Addr} {H H' : Hp} {v : V} {d : D} (h : Rp H v d) (c : Chg S H H') : Rp H' v d := Rp.chg c d v h
theorem RpA.on {S : List Addr} {H H' : Hp} {xs : List V} {ds : List D} (h : RpA H xs ds) (c : Chg S H H') : RpA H' xs ds := RpA.chg c ds xs h
mutual
theorem Rp.dp {K : PySem.W.Frag} {H : Hp} : ∀ (d : D) (v : V), Rp H v d → L2.Dp K H v d.py
  | .non, _, h => by cases h; exact .non
  | .bl b, _, h => by cases h; exact .bl b
  | .int i, _, h => by cases h; exact .int i
  | .str s, _, h => by cases h with | str h => exact .str s
  | .tup ds, _, h => by cases h with | tup e r => rw [D.py]; exact .tup (SqT.of e) (RpA.dp ds _ r)
theorem RpA.dp {K : PySem.W.Frag} {H : Hp} : ∀ (ds : List D) (xs : List V), RpA H xs ds → L2.DpAll K H xs (D.pys ds)
  | [], _, h => by cases h; exact .nil
  | d :: ds, _, h => by cases h with | cons r t => exact .cons (Rp.dp d _ r) (RpA.dp ds _ t)
end
mutual
theorem Rp.lay {H : Hp} : ∀ (d : D) (v : V), Rp H v d → PyData.canLay0 d.py = true
  | .non, _, h => rfl
  | .bl b, _, h => rfl
  | .int i, _, h => rfl
  | .str s, _, h => by cases h with | str h => exact h
  | .tup ds, _, h => by cases h with | tup e r => rw [D.py, PyData.canLay0]; exact RpA.lay ds _ r
theorem RpA.lay {H : Hp} : ∀ (ds : List D) (xs : List V), RpA H xs ds → PyData.canLayAll0 (D.pys ds) = true
  | [], _, h => rfl
  | d :: ds, _, h => by cases h with | cons r t => rw [D.pys, PyData.canLayAll0, Rp.lay d _ r, RpA.lay ds _ t]; rfl
end
theorem Rp.shaped {H : Hp} {v : V} {d : D} (h : Rp H v d) (hd : d.dep ≤ 64) : SeqAt.shaped d.py = true := by
  unfold SeqAt.shaped
  rw [Rp.lay d v h, D.depth_py, Bool.true_and]
  exact decide_eq_true hd
theorem RpA.shapedL {H : Hp} {xs : List V} {ds : List D} (h : RpA H xs ds) (hd : D.deps ds ≤ 63) : SeqAt.shaped (.list (D.pys ds)) = true := by
  unfold SeqAt.shaped
  rw [PyData.canLay0, RpA.lay ds xs h, PyData.depth, D.depth_pys, Bool.true_and]
  exact decide_eq_true (by omega)
theorem RpA.length {H : Hp} {xs : List V} {ds : List D} (h : RpA H xs ds) : xs.length = ds.length := by
  induction ds generalizing xs with
  | nil => cases h; rfl
  | cons d ds ih => cases h with | cons r t => rw [List.length_cons, List.length_cons, ih t]
theorem RpA.get {H : Hp} {xs : List V} {ds : List D} (h : RpA H xs ds) {i : Nat} {x : V} (e : xs[i]? = some x) : ∃ d, ds[i]? = some d ∧ Rp H x d := by
  induction ds generalizing xs i with
  | nil => cases h; simp at e
  | cons d ds ih =>
    cases h with
    | cons r t =>
      cases i with
      | zero => simp at e; subst e; exact ⟨d, by simp, r⟩
      | succ i => simp at e; simpa using ih t e
theorem RpA.getD {H : Hp} {xs : List V} {ds : List D} (h : RpA H xs ds) {i : Nat} {d : D} (e : ds[i]? = some d) : ∃ x, xs[i]? = some x ∧ Rp H x d := by
  induction ds generalizing xs i with
  | nil => simp at e
  | cons d' ds ih =>
    cases h with
    | cons r t =>
      cases i with
      | zero => simp at e; subst e; exact ⟨_, by simp, r⟩
      | succ i => simp at e; simpa using ih t e
theorem RpA.app {H : Hp} {xs ys : List V} {ds es : List D} (h : RpA H xs ds) (h' : RpA H ys es) : RpA H (xs ++ ys) (ds ++ es) := by
  induction ds generalizing xs with
  | nil => cases h; exact h'
  | cons d ds ih => cases h with | cons r t => exact .cons r (ih t)
theorem RpA.one {H : Hp} {x : V} {d : D} (h : Rp H x d) : RpA H [x] [d] := .cons h .nil
theorem RpA.snoc {H : Hp} {xs : List V} {ds : List D} {x : V} {d : D} (h : RpA H xs ds) (h' : Rp H x d) : RpA H (xs ++ [x]) (ds ++ [d]) := h.app (.one h')
theorem RpA.take {H : Hp} {xs : List V} {ds : List D} (h : RpA H xs ds) (n : Nat) : RpA H (xs.take n) (ds.take n) := by
  induction n generalizing xs ds with
  | zero => exact .nil
  | succ n ih =>
    cases ds with
    | nil => cases h; exact .nil
    | cons d ds => cases h with | cons r t => exact .cons r (ih t)
theorem RpA.drop {H : Hp} {xs : List V} {ds : List D} (h : RpA H xs ds) (n : Nat) : RpA H (xs.drop n) (ds.drop n) := by
  induction n generalizing xs ds with
  | zero => exact h
  | succ n ih =>
    cases ds with
    | nil => cases h; exact .nil
    | cons d ds => cases h with | cons r t => exact ih t
def cutL {α : Type} (xs : List α) (lo hi : Option Int) : List α := (xs.drop (HT.sIx xs.length 0 lo)).take (HT.sIx xs.length xs.length hi - HT.sIx xs.length 0 lo)
theorem RpA.cut {H : Hp} {xs : List V} {ds : List D} (h : RpA H xs ds) (lo hi : Option Int) : RpA H (cutV xs lo hi) (cutL ds lo hi) := by
  unfold cutV cutL
  rw [h.length]
  exact (h.drop _).take _
theorem RpA.mem {H : Hp} {xs : List V} {ds : List D} (h : RpA H xs ds) {x : V} (m : x ∈ xs) : ∃ d, d ∈ ds ∧ Rp H x d := by
  obtain ⟨i, hi, e⟩ := List.getElem_of_mem m
  obtain ⟨d, e', r⟩ := h.get (List.getElem?_eq_some_iff.mpr ⟨hi, e⟩)
  exact ⟨d, List.mem_of_getElem? e', r⟩
theorem RpA.perm {H : Hp} {xs ys : List V} (p : ys.Perm xs) : ∀ {ds : List D}, RpA H xs ds → ∃ es, RpA H ys es ∧ es.Perm ds := by
  induction p with
  | nil => intro ds h; cases h; exact ⟨[], .nil, .nil⟩
  | cons x _ ih => intro ds h; cases h with | cons r t => obtain ⟨es, h1, h2⟩ := ih t; exact ⟨_ :: es, .cons r h1, .cons _ h2⟩
  | swap x y l => intro ds h; cases h with | cons r t => cases t with | cons r2 t2 => exact ⟨_, .cons r2 (.cons r t2), .swap ..⟩
  | trans _ _ ih1 ih2 => intro ds h; obtain ⟨es, h1, h2⟩ := ih2 h; obtain ⟨fs, h3, h4⟩ := ih1 h1; exact ⟨fs, h3, h4.trans h2⟩
/-- == of data -/
def D.eqv (d e : D) : Bool := PyData.eqv d.py e.py
theorem Rp.eqv_refl {H : Hp} {v : V} {d : D} (h : Rp H v d) : D.eqv d d = true := PySem.SeqAt.eqv_refl _ (Rp.lay d v h)
section
variable {H : Hp} {Q : VK} {K : PySem.W.Frag} {x y : V} {d e : D} {a b : Addr} {xs ys : List V} {ds es : List D}
theorem v_eq_D (h1 : Rp H x d) (h2 : Rp H y e) (l1 : d.dep ≤ 64) (l2 : e.dep ≤ 64) (q : Q (.bl (D.eqv d e)) H) : uEq K x y H Q := v_eq_d (Rp.dp d x h1) (Rp.dp e y h2) (h1.shaped l1) (h2.shaped l2) q
theorem v_ne_D (h1 : Rp H x d) (h2 : Rp H y e) (l1 : d.dep ≤ 64) (l2 : e.dep ≤ 64) (q : Q (.bl (!D.eqv d e)) H) : uNe K x y H Q := v_ne_d (Rp.dp d x h1) (Rp.dp e y h2) (h1.shaped l1) (h2.shaped l2) q
theorem v_eq_Dr (h1 : Rp H x d) (h2 : Rp H y d) (l1 : d.dep ≤ 64) (q : Q (.bl true) H) : uEq K x y H Q := v_eq_D h1 h2 l1 l1 (by rw [h1.eqv_refl]; exact q)
theorem v_ne_Dr (h1 : Rp H x d) (h2 : Rp H y d) (l1 : d.dep ≤ 64) (q : Q (.bl false) H) : uNe K x y H Q := v_ne_D h1 h2 l1 l1 (by rw [h1.eqv_refl]; exact q)
/-- lists of data -/
theorem v_eq_Lr (h1 : SqL K H a xs) (h2 : SqL K H b ys) (r1 : RpA H xs ds) (r2 : RpA H ys ds) (l1 : D.deps ds ≤ 63) (q : Q (.bl true) H) : uEq K (.ref a) (.ref b) H Q :=
  v_eq_d (.lst h1 (RpA.dp ds xs r1)) (.lst h2 (RpA.dp ds ys r2)) (r1.shapedL l1) (r2.shapedL l1) (by rw [PyData.eqv, PySem.SeqAt.eqvAll_refl _ (RpA.lay ds xs r1)]; exact q)
theorem v_ne_Lr (h1 : SqL K H a xs) (h2 : SqL K H b ys) (r1 : RpA H xs ds) (r2 : RpA H ys ds) (l1 : D.deps ds ≤ 63) (q : Q (.bl false) H) : uNe K (.ref a) (.ref b) H Q :=
  v_ne_d (.lst h1 (RpA.dp ds xs r1)) (.lst h2 (RpA.dp ds ys r2)) (r1.shapedL l1) (r2.shapedL l1) (by rw [PyData.eqv, PySem.SeqAt.eqvAll_refl _ (RpA.lay ds xs r1)]; exact q)
end
/-! ## 16. keys as data -/
def keyD : Key → D
  | .inl i => .int i
  | .inr s => .str s
def keyOkB : Key → Bool
  | .inl _ => true
  | .inr s => PyData.strOk s
theorem rp_key {H : Hp} {k : Key} (h : keyOkB k = true) : Rp H (kV k) (keyD k) := by
  cases k with
  | inl i => exact .int i
  | inr s => exact .str h
theorem rpA_keys {H : Hp} : ∀ {ks : List Key}, ks.all keyOkB = true → RpA H (ks.map kV) (ks.map keyD)
  | [], _ => .nil
  | k :: ks, h => by
    rw [List.all_cons, Bool.and_eq_true] at h
    exact .cons (rp_key h.1) (rpA_keys h.2)
theorem eqv_key (k l : Key) : PyData.eqv (keyD k).py (keyD l).py = decide (k = l) := by
  cases k <;> cases l
  · rename_i i j
    show (i == j) = _
    by_cases h : i = j
    · subst h; simp
    · have : (Sum.inl i : Key) ≠ Sum.inl j := fun e => h (Sum.inl.inj e)
      simp [h]
  · rfl
  · rfl
  · rename_i i j
    show (i == j) = _
    by_cases h : i = j
    · subst h; simp
    · simp [h]
theorem eqv_keys : ∀ ks ls : List Key, PyData.eqvAll (D.pys (ks.map keyD)) (D.pys (ls.map keyD)) = decide (ks = ls)
  | [], [] => rfl
  | [], _ :: _ => rfl
  | _ :: _, [] => rfl
  | k :: ks, l :: ls => by
    show (PyData.eqv (keyD k).py (keyD l).py && PyData.eqvAll (D.pys (ks.map keyD)) (D.pys (ls.map keyD))) = _
    rw [eqv_key, eqv_keys]
    by_cases h : k = l
    · subst h; simp
    · simp [h]
theorem dep_keys (ks : List Key) : D.deps (ks.map keyD) = 0 := by
  have := D.deps_le (xs := ks.map keyD) (n := 0) fun x hx => by
    obtain ⟨k, _, rfl⟩ := List.mem_map.mp hx
    cases k <;> exact Nat.le_refl 0
  omega
/-- tuples of keys -/
inductive Cls (H : Hp) : List V → List (List Key) → Prop
  | nil : Cls H [] []
  | cons {t : Addr} {xs : List V} {k : List Key} {ks : List (List Key)} : H t = some (.tup (k.map kV)) → Cls H xs ks → Cls H (.ref t :: xs) (k :: ks)
theorem Cls.on {S : List Addr} {H H' : Hp} {xs : List V} {ks : List (List Key)} (h : Cls H xs ks) (c : Chg S H H') : Cls H' xs ks := by
  induction h with
  | nil => exact .nil
  | cons e _ ih => exact .cons (c.tup e) ih
theorem Cls.length {H : Hp} {xs : List V} {ks : List (List Key)} (h : Cls H xs ks) : xs.length = ks.length := by
  induction h with
  | nil => rfl
  | cons e _ ih => rw [List.length_cons, List.length_cons, ih]
theorem Cls.app {H : Hp} {xs ys : List V} {ks ls : List (List Key)} (h : Cls H xs ks) (h' : Cls H ys ls) : Cls H (xs ++ ys) (ks ++ ls) := by
  induction h with
  | nil => exact h'
  | cons e _ ih => exact .cons e ih
theorem Cls.snoc {H : Hp} {xs : List V} {ks : List (List Key)} {t : Addr} {k : List Key} (h : Cls H xs ks) (e : H t = some (.tup (k.map kV))) : Cls H (xs ++ [.ref t]) (ks ++ [k]) := h.app (.cons e .nil)
theorem Cls.get {H : Hp} {xs : List V} {ks : List (List Key)} (h : Cls H xs ks) {i : Nat} {x : V} (e : xs[i]? = some x) : ∃ t k, x = .ref t ∧ ks[i]? = some k ∧ H t = some (.tup (k.map kV)) := by
  induction h generalizing i with
  | nil => simp at e
  | cons e' _ ih =>
    cases i with
    | zero => simp at e; subst e; exact ⟨_, _, rfl, by simp, e'⟩
    | succ i => simp at e; simpa using ih e
theorem Cls.mem {H : Hp} {xs : List V} {ks : List (List Key)} (h : Cls H xs ks) {x : V} (m : x ∈ xs) : ∃ t k, x = .ref t ∧ k ∈ ks ∧ H t = some (.tup (k.map kV)) := by
  obtain ⟨i, hi, e⟩ := List.getElem_of_mem m
  obtain ⟨t, k, e1, e2, e3⟩ := h.get (List.getElem?_eq_some_iff.mpr ⟨hi, e⟩)
  exact ⟨t, k, e1, List.mem_of_getElem? e2, e3⟩
theorem Cls.perm {H : Hp} {xs ys : List V} (p : ys.Perm xs) : ∀ {ks : List (List Key)}, Cls H xs ks → ∃ ls, Cls H ys ls ∧ ls.Perm ks := by
  induction p with
  | nil => intro ds h; cases h; exact ⟨[], .nil, .nil⟩
  | cons x _ ih => intro ds h; cases h with | cons r t => obtain ⟨es, h1, h2⟩ := ih t; exact ⟨_ :: es, .cons r h1, .cons _ h2⟩
  | swap x y l => intro ds h; cases h with | cons r t => cases t with | cons r2 t2 => exact ⟨_, .cons r2 (.cons r t2), .swap ..⟩
  | trans _ _ ih1 ih2 => intro ds h; obtain ⟨es, h1, h2⟩ := ih2 h; obtain ⟨fs, h3, h4⟩ := ih1 h1; exact ⟨fs, h3, h4.trans h2⟩
def cellD (k : List Key) : D := .tup (k.map keyD)
theorem rp_cell {H : Hp} {t : Addr} {k : List Key} (e : H t = some (.tup (k.map kV))) (h : k.all keyOkB = true) : Rp H (.ref t) (cellD k) := .tup e (rpA_keys h)
theorem Cls.rpA {H : Hp} {xs : List V} {ks : List (List Key)} (h : Cls H xs ks) (hk : ∀ k ∈ ks, k.all keyOkB = true) : RpA H xs (ks.map cellD) := by
  induction h with
  | nil => exact .nil
  | cons e _ ih => exact .cons (rp_cell e (hk _ List.mem_cons_self)) (ih fun k m => hk k (List.mem_cons_of_mem _ m))
theorem dep_cell (k : List Key) : (cellD k).dep = 1 := by rw [cellD, D.dep, dep_keys]
theorem dep_cells (ks : List (List Key)) : D.deps (ks.map cellD) ≤ 1 := D.deps_le fun x hx => by
  obtain ⟨k, _, rfl⟩ := List.mem_map.mp hx
  rw [dep_cell]; exact Nat.le_refl 1
def inK (k : List Key) (ks : List (List Key)) : Bool := ks.any fun l => decide (l = k)
theorem inK_iff {k : List Key} {ks : List (List Key)} : inK k ks = true ↔ k ∈ ks := by
  unfold inK
  rw [List.any_eq_true]
  constructor
  · rintro ⟨l, h1, h2⟩
    have : l = k := of_decide_eq_true h2
    subst this; exact h1
  · intro h
    exact ⟨k, h, decide_eq_true rfl⟩
theorem any_cells (ks : List (List Key)) (k : List Key) : ((D.pys (ks.map cellD)).any fun z => PyData.eqv z (cellD k).py) = inK k ks := by
  induction ks with
  | nil => rfl
  | cons l ks ih =>
    show (PyData.eqv (cellD l).py (cellD k).py || _) = (decide (l = k) || inK k ks)
    rw [ih, show PyData.eqv (cellD l).py (cellD k).py = decide (l = k) from eqv_keys l k]
section
variable {H : Hp} {Q : VK} {K : PySem.W.Frag} {t b : Addr} {xs : List V} {k : List Key} {ks : List (List Key)}
/-- a tuple of keys in a list of such -/
theorem v_in_cells (h1 : SqL K H b xs) (hc : Cls H xs ks) (h2 : H t = some (.tup (k.map kV))) (hk : k.all keyOkB = true) (hks : ∀ k ∈ ks, k.all keyOkB = true) (q : Q (.bl (inK k ks)) H) : uIn K false (.ref t) (.ref b) H Q :=
  .inl (.inl (.inr ⟨_, _, Rp.dp _ _ (rp_cell h2 hk), .lst h1 (RpA.dp _ _ (hc.rpA hks)), (rp_cell h2 hk).shaped (by rw [dep_cell]; decide), (hc.rpA hks).shapedL (Nat.le_trans (dep_cells ks) (by decide)), by
    show Q (.bl ((D.pys (ks.map cellD)).any fun z => PyData.eqv z (cellD k).py)) H
    rw [any_cells]; exact q⟩))
theorem v_nin_cells (h1 : SqL K H b xs) (hc : Cls H xs ks) (h2 : H t = some (.tup (k.map kV))) (hk : k.all keyOkB = true) (hks : ∀ k ∈ ks, k.all keyOkB = true) (q : Q (.bl (!inK k ks)) H) : uIn K true (.ref t) (.ref b) H Q :=
  .inl (.inl (.inr ⟨_, _, Rp.dp _ _ (rp_cell h2 hk), .lst h1 (RpA.dp _ _ (hc.rpA hks)), (rp_cell h2 hk).shaped (by rw [dep_cell]; decide), (hc.rpA hks).shapedL (Nat.le_trans (dep_cells ks) (by decide)), by
    show Q (.bl (!(D.pys (ks.map cellD)).any fun z => PyData.eqv z (cellD k).py)) H
    rw [any_cells]; exact q⟩))
/-- sorted of them -/
theorem v_sorted_cells (h : SqL K H b xs) (hc : Cls H xs ks) (hf : ∀ k ∈ ks, ∃ z r, k = .inr z :: r) (hl : ∀ k ∈ ks, ∀ l ∈ ks, likeK k l = true)
    (q : ∀ ys ls p H', Cls H ys ls → ls.Perm ks → ls.Pairwise (fun k l => lexK l k = false) → H p = none → Chg [] H H' → H' p = some (.lst ys) → Q (.ref p) H') : uSorted K [.ref b] H Q := by
  classical
  have key : ∀ x ∈ xs, ∃ (t : Addr) (k : List Key), x = .ref t ∧ k ∈ ks ∧ H t = some (.tup (k.map kV)) := fun x m => hc.mem m
  let f : V → List Key := fun x => if h : ∃ (t : Addr) (k : List Key), x = V.ref t ∧ H t = some (.tup (k.map kV)) then h.choose_spec.choose else []
  have kinj : ∀ {k l : List Key}, k.map kV = l.map kV → k = l := by
    intro k
    induction k with
    | nil => intro l e; cases l with
      | nil => rfl
      | cons y l => cases e
    | cons x k ih => intro l e; cases l with
      | nil => cases e
      | cons y l =>
        simp only [List.map_cons, List.cons.injEq] at e
        have : x = y := by cases x <;> cases y <;> simp [kV] at e <;> simp [e]
        rw [this, ih e.2]
  have fk : ∀ {t : Addr} {k : List Key}, H t = some (.tup (k.map kV)) → f (.ref t) = k := by
    intro t k e
    have hex : ∃ (t' : Addr) (k' : List Key), V.ref t = V.ref t' ∧ H t' = some (.tup (k'.map kV)) := ⟨t, k, rfl, e⟩
    have : f (.ref t) = hex.choose_spec.choose := dif_pos hex
    rw [this]
    have k2 : ∀ (a' : Addr) (k' : List Key), V.ref t = V.ref a' ∧ H a' = some (.tup (k'.map kV)) → k' = k := by
      rintro a' k' ⟨e1, e2⟩
      cases e1
      rw [e] at e2
      simp only [Option.some.injEq, HO.tup.injEq] at e2
      exact (kinj e2).symm
    exact k2 _ _ hex.choose_spec.choose_spec
  have kx : ∀ x ∈ xs, f x ∈ ks ∧ ∃ t, x = .ref t ∧ H t = some (.tup ((f x).map kV)) := fun x m => by
    obtain ⟨t, k, rfl, hk, e⟩ := key x m
    rw [fk e]
    exact ⟨hk, t, rfl, e⟩
  refine .inr ⟨b, xs, fun x => (f x).map kV, fun x y => lexK (f x) (f y), rfl, h, fun x m => ?_, .inl fun x m => ?_, swo_lexK f, fun x mx y my => ?_, fun ys p hs hp hn => ?_⟩
  · obtain ⟨_, t, e, e'⟩ := kx x m
    exact ⟨t, e, SqT.of e'⟩
  · obtain ⟨z, r, e⟩ := hf _ (kx x m).1
    exact ⟨z, r.map kV, by show (f x).map kV = _; rw [e]; rfl⟩
  · exact lexV_keys (hl _ (kx x mx).1 _ (kx y my).1)
  · obtain ⟨ls, c1, c2⟩ := Cls.perm hp hc
    refine q ys ls p _ c1 c2 ?_ hn (.new hn) upd_same
    have el : ls = ys.map f := by
      clear hs hp c2
      induction c1 with
      | nil => rfl
      | cons e _ ih => rw [List.map_cons, fk e, ih]
    rw [el, List.pairwise_map]
    exact hs
end
end RT

namespace RT
open PySem PySem.Spec PyProof.Rows L2
/-! ## 17. programs, as data -/
inductive Vl where
  | num (i : Int)
  | box (z : Str)
  | size (z : Str)
  | neg (v : Vl)
  | item (z : Str) (v : Vl)
  | bin (w : Str) (a b : Vl)
def Vl.d : Vl → D
  | .num i => .tup [.str "number", .int i]
  | .box z => .tup [.str "box", .str z]
  | .size z => .tup [.str "size", .str z]
  | .neg v => .tup [.str "not", v.d]
  | .item z v => .tup [.str "item", .str z, v.d]
  | .bin w a b => .tup [.str w, a.d, b.d]
def Vl.dp : Vl → Nat
  | .neg v => v.dp + 1
  | .item _ v => v.dp + 1
  | .bin _ a b => max a.dp b.dp + 1
  | _ => 1
def binW : List Str := ["plus", "minus", "less", "same", "times", "over", "rest"]
def Vl.ok (B L : Str → Prop) : Vl → Prop
  | .num i => 0 ≤ i ∧ i < 1000000
  | .box z => B z
  | .size z => L z
  | .neg v => v.ok B L
  | .item z v => L z ∧ v.ok B L
  | .bin w a b => w ∈ binW ∧ a.ok B L ∧ b.ok B L
inductive Rw where
  | set (x : Str) (v : Vl)
  | push (l : Str) (v : Vl)
  | pop (x l : Str)
  | put (l : Str) (v u : Vl)
  | ask (x d : Str)
  | tell (v : Vl)
  | fail (v : Vl)
  | call (x f : Str) (vs : List Vl)
  | ret (v : Vl)
  | ife (v : Vl) (a b : List Rw)
  | whl (v : Vl) (a : List Rw)
  | tr (a : List Rw) (x : Str) (b : List Rw)
mutual
def Rw.d : Rw → D
  | .set x v => .tup [.str "set", .str x, v.d]
  | .push l v => .tup [.str "push", .str l, v.d]
  | .pop x l => .tup [.str "pop", .str x, .str l]
  | .put l v u => .tup [.str "put", .str l, v.d, u.d]
  | .ask x d => .tup [.str "ask", .str x, .str d]
  | .tell v => .tup [.str "tell", v.d]
  | .fail v => .tup [.str "fail", v.d]
  | .call x f vs => .tup [.str "call", .str x, .str f, .tup (vs.map Vl.d)]
  | .ret v => .tup [.str "return", v.d]
  | .ife v a b => .tup [.str "if", v.d, .tup (Rw.ds a), .tup (Rw.ds b)]
  | .whl v a => .tup [.str "while", v.d, .tup (Rw.ds a)]
  | .tr a x b => .tup [.str "try", .tup (Rw.ds a), .str x, .tup (Rw.ds b)]
def Rw.ds : List Rw → List D
  | [] => []
  | r :: l => r.d :: Rw.ds l
end
theorem Rw.ds_eq : ∀ l : List Rw, Rw.ds l = l.map Rw.d
  | [] => rfl
  | r :: l => by rw [Rw.ds, Rw.ds_eq l]; rfl
mutual
def Rw.dpt : Rw → Nat
  | .ife _ a b => max (Rw.dpts a) (Rw.dpts b) + 1
  | .whl _ a => Rw.dpts a + 1
  | .tr a _ b => max (Rw.dpts a) (Rw.dpts b) + 1
  | _ => 1
def Rw.dpts : List Rw → Nat
  | [] => 0
  | r :: l => max r.dpt (Rw.dpts l)
end
mutual
def Rw.cnt : Rw → Nat
  | .ife _ a b => Rw.cnts a + Rw.cnts b + 1
  | .whl _ a => Rw.cnts a + 1
  | .tr a _ b => Rw.cnts a + Rw.cnts b + 1
  | _ => 1
def Rw.cnts : List Rw → Nat
  | [] => 0
  | r :: l => r.cnt + Rw.cnts l
end
theorem Rw.cnts_app : ∀ (l m : List Rw), Rw.cnts (l ++ m) = Rw.cnts l + Rw.cnts m
  | [], m => by show Rw.cnts m = 0 + _; omega
  | r :: l, m => by show r.cnt + Rw.cnts (l ++ m) = r.cnt + Rw.cnts l + _; rw [Rw.cnts_app l m]; omega
theorem Rw.cnt_pos : ∀ r : Rw, 1 ≤ r.cnt := by
  intro r
  cases r <;> simp [Rw.cnt]
theorem Rw.len_cnts : ∀ l : List Rw, l.length ≤ Rw.cnts l
  | [] => Nat.le_refl _
  | r :: l => by
    have := Rw.len_cnts l
    have := Rw.cnt_pos r
    rw [Rw.cnts, List.length_cons]; omega
theorem Rw.dpt_pos : ∀ r : Rw, 1 ≤ r.dpt := by
  intro r
  cases r <;> simp [Rw.dpt]
theorem Rw.cnts_zero : ∀ l : List Rw, Rw.dpts l = 0 → Rw.cnts l = 0
  | [], _ => rfl
  | r :: l, h => by have := Rw.dpt_pos r; simp only [Rw.dpts] at h; omega
theorem Rw.cnt_plain : ∀ {r : Rw}, r.dpt = 1 → r.cnt = 1
  | .ife v a b, h => by
    simp only [Rw.dpt] at h
    have := Rw.cnts_zero a (by omega); have := Rw.cnts_zero b (by omega)
    simp only [Rw.cnt]; omega
  | .whl v a, h => by
    simp only [Rw.dpt] at h
    have := Rw.cnts_zero a (by omega)
    simp only [Rw.cnt]; omega
  | .tr a x b, h => by
    simp only [Rw.dpt] at h
    have := Rw.cnts_zero a (by omega); have := Rw.cnts_zero b (by omega)
    simp only [Rw.cnt]; omega
  | .set .., _ => rfl
  | .push .., _ => rfl
  | .pop .., _ => rfl
  | .put .., _ => rfl
  | .ask .., _ => rfl
  | .tell .., _ => rfl
  | .fail .., _ => rfl
  | .call .., _ => rfl
  | .ret .., _ => rfl
/-- the names that rows may have -/
structure Nms where
  B : Str → Prop
  L : Str → Prop
  F : Str → Nat → Prop
  Dr : Str → Prop
  ins : Bool
def Vl.ok4 (N : Nms) (v : Vl) : Prop := v.ok N.B N.L ∧ v.dp ≤ 4
mutual
def Rw.ok (N : Nms) : Rw → Prop
  | .set x v => N.B x ∧ v.ok4 N
  | .push l v => N.L l ∧ v.ok4 N
  | .pop x l => N.B x ∧ N.L l
  | .put l v u => N.L l ∧ v.ok4 N ∧ u.ok4 N
  | .ask x d => N.B x ∧ N.Dr d
  | .tell v => v.ok4 N
  | .fail v => v.ok4 N
  | .call x f vs => N.B x ∧ N.F f vs.length ∧ vs.length ≤ 3 ∧ ∀ v ∈ vs, v.ok4 N
  | .ret v => N.ins = true ∧ v.ok4 N
  | .ife v a b => v.ok4 N ∧ Rw.oks N a ∧ Rw.oks N b
  | .whl v a => v.ok4 N ∧ Rw.oks N a
  | .tr a x b => N.B x ∧ Rw.oks N a ∧ Rw.oks N b
def Rw.oks (N : Nms) : List Rw → Prop
  | [] => True
  | r :: l => r.ok N ∧ Rw.oks N l
end
theorem Rw.oks_iff {N : Nms} : ∀ {l : List Rw}, Rw.oks N l ↔ ∀ r ∈ l, r.ok N
  | [] => by simp [Rw.oks]
  | r :: l => by rw [Rw.oks, Rw.oks_iff]; simp
theorem Rw.oks_app {N : Nms} {l m : List Rw} (h : Rw.oks N l) (h' : Rw.oks N m) : Rw.oks N (l ++ m) := by
  rw [Rw.oks_iff] at *
  intro r hr
  exact (List.mem_append.mp hr).elim (h r) (h' r)
theorem Rw.ds_app (l m : List Rw) : Rw.ds (l ++ m) = Rw.ds l ++ Rw.ds m := by rw [Rw.ds_eq, Rw.ds_eq, Rw.ds_eq, List.map_append]
theorem Rw.dpts_app : ∀ (l m : List Rw), Rw.dpts (l ++ m) = max (Rw.dpts l) (Rw.dpts m)
  | [], m => by show Rw.dpts m = max 0 _; omega
  | r :: l, m => by show max r.dpt (Rw.dpts (l ++ m)) = max (max r.dpt (Rw.dpts l)) _; rw [Rw.dpts_app l m]; omega
theorem Rw.dpts_mem {l : List Rw} {r : Rw} (h : r ∈ l) : r.dpt ≤ Rw.dpts l := by
  induction l with
  | nil => cases h
  | cons x l ih =>
    rw [Rw.dpts]
    rcases List.mem_cons.mp h with rfl | h
    · omega
    · have := ih h; omega
theorem Vl.dep : ∀ v : Vl, v.d.dep = v.dp
  | .num _ => rfl
  | .box _ => rfl
  | .size _ => rfl
  | .neg v => by simp [Vl.d, D.dep, D.deps, Vl.dp, Vl.dep v]
  | .item _ v => by simp [Vl.d, D.dep, D.deps, Vl.dp, Vl.dep v]
  | .bin _ a b => by simp [Vl.d, D.dep, D.deps, Vl.dp, Vl.dep a, Vl.dep b]
mutual
theorem Rw.dep_le {N : Nms} : ∀ {r : Rw}, r.ok N → r.d.dep ≤ 4 + 2 * r.dpt
  | .set x v, h => by have := h.2.2; simp [Rw.d, D.dep, D.deps, Rw.dpt, Vl.dep]; omega
  | .push l v, h => by have := h.2.2; simp [Rw.d, D.dep, D.deps, Rw.dpt, Vl.dep]; omega
  | .pop x l, h => by simp [Rw.d, D.dep, D.deps, Rw.dpt]
  | .put l v u, h => by have := h.2.1.2; have := h.2.2.2; simp [Rw.d, D.dep, D.deps, Rw.dpt, Vl.dep]; omega
  | .ask x d, h => by simp [Rw.d, D.dep, D.deps, Rw.dpt]
  | .tell v, h => by have := h.2; simp [Rw.d, D.dep, D.deps, Rw.dpt, Vl.dep]; omega
  | .fail v, h => by have := h.2; simp [Rw.d, D.dep, D.deps, Rw.dpt, Vl.dep]; omega
  | .call x f vs, h => by
    have h3 := h.2.2.2
    have : D.deps (vs.map Vl.d) ≤ 4 := D.deps_le fun y hy => by
      obtain ⟨v, hv, rfl⟩ := List.mem_map.mp hy
      rw [Vl.dep]; exact (h3 v hv).2
    simp [Rw.d, D.dep, D.deps, Rw.dpt]; omega
  | .ret v, h => by have := h.2.2; simp [Rw.d, D.dep, D.deps, Rw.dpt, Vl.dep]; omega
  | .ife v a b, h => by
    have := h.1.2; have := Rw.deps_le h.2.1; have := Rw.deps_le h.2.2
    simp [Rw.d, D.dep, D.deps, Rw.dpt, Vl.dep]; omega
  | .whl v a, h => by
    have := h.1.2; have := Rw.deps_le h.2
    simp [Rw.d, D.dep, D.deps, Rw.dpt, Vl.dep]; omega
  | .tr a x b, h => by
    have := Rw.deps_le h.2.1; have := Rw.deps_le h.2.2
    simp [Rw.d, D.dep, D.deps, Rw.dpt]; omega
theorem Rw.deps_le {N : Nms} : ∀ {l : List Rw}, Rw.oks N l → D.deps (Rw.ds l) ≤ 4 + 2 * Rw.dpts l
  | [], _ => Nat.zero_le _
  | r :: l, h => by
    have := Rw.dep_le h.1; have := Rw.deps_le h.2
    simp only [Rw.ds, D.deps, Rw.dpts]; omega
end
structure Pg where
  bx : List (Str × Int)
  ls : List (Str × List Int)
  fs : List (Str × List Str × List Str × List Rw)
  rows : List Rw
def bxD (p : Str × Int) : D := .tup [.str p.1, .int p.2]
def lsD (p : Str × List Int) : D := .tup [.str p.1, .tup (p.2.map D.int)]
def fnD (f : Str × List Str × List Str × List Rw) : D := .tup [.str f.1, .tup (f.2.1.map D.str), .tup (f.2.2.1.map D.str), .tup (Rw.ds f.2.2.2)]
def Pg.d (p : Pg) : D := .tup [.tup (p.bx.map bxD), .tup (p.ls.map lsD), .tup (p.fs.map fnD), .tup (Rw.ds p.rows)]
theorem rpA_strs {H : Hp} {zs : List Str} (h : ∀ z ∈ zs, PyData.strOk z = true) : RpA H (zs.map V.str) (zs.map D.str) := by
  induction zs with
  | nil => exact .nil
  | cons z zs ih => exact .cons (.str (h z List.mem_cons_self)) (ih fun y hy => h y (List.mem_cons_of_mem _ hy))
theorem rpA_ints {H : Hp} (ns : List Int) : RpA H (ns.map V.int) (ns.map D.int) := by
  induction ns with
  | nil => exact .nil
  | cons z zs ih => exact .cons (.int z) ih
theorem strs_of_rp {H : Hp} : ∀ {zs : List Str} {xs : List V}, RpA H xs (zs.map D.str) → xs = zs.map V.str ∧ ∀ z ∈ zs, PyData.strOk z = true
  | [], _, h => by cases h; exact ⟨rfl, by simp⟩
  | z :: zs, _, h => by
    cases h with
    | cons r t =>
      cases r with
      | str hz =>
        obtain ⟨e, h2⟩ := strs_of_rp t
        refine ⟨by rw [e]; rfl, fun y hy => ?_⟩
        rcases List.mem_cons.mp hy with rfl | hy
        · exact hz
        · exact h2 y hy
theorem ints_of_rp {H : Hp} : ∀ {zs : List Int} {xs : List V}, RpA H xs (zs.map D.int) → xs = zs.map V.int
  | [], _, h => by cases h; rfl
  | z :: zs, _, h => by cases h with | cons r t => cases r; rw [ints_of_rp t]; rfl
theorem wordsOk : ∀ w ∈ ([("number" : Str), "box", "size", "not", "item", "set", "push", "pop", "put", "ask", "tell", "fail", "call", "return", "if", "while", "try", "def", "plus", "minus", "less", "same", "times", "over", "rest", "door", "a", "zz"] : List Str), PyData.strOk w = true := by decide +kernel
theorem Rp.tupI {H : Hp} {v : V} {ds : List D} (h : Rp H v (.tup ds)) : ∃ a xs, v = .ref a ∧ H a = some (.tup xs) ∧ RpA H xs ds := by
  cases h with
  | tup e r => exact ⟨_, _, rfl, e, r⟩
section
variable {H : Hp} {Q : VK} {K : PySem.W.Frag}
theorem v_ix_strs {a : Addr} {zs : List Str} {i : Int} (h : SqL K H a (zs.map V.str)) (h0 : 0 ≤ i) (h1 : i < zs.length) (q : ∀ z, z ∈ zs → Q (.str z) H) : uIx K (.ref a) (.int i) H Q :=
  v_ix_lany h h0 (by rw [List.length_map]; exact h1) fun v hv => by
    obtain ⟨z, hz, rfl⟩ := List.mem_map.mp (List.mem_of_getElem? hv)
    exact q z hz
end
end RT

/-! ## 18. sets of texts: walked and sorted (after the rules for sets of ints) -/
namespace RT
open PySem PySem.Spec PyProof.Rows L2
def keyS (e : Int × Value) : Str := match e.2 with | .str k _ => k | _ => ⟨#[]⟩
def GoodS (w : World) (e : Int × Value) : Prop := ∃ k tk, e.2 = Value.str k tk ∧ e.1 = hashStr w k
def SetS (w : World) (h : Heap) (a : Addr) (S : Str → Bool) (n : Nat) : Prop :=
  ∃ o es ep t, h.get? a = some o ∧ o.ExactSet ∧ o.data = .set es ep t ∧ (∀ e ∈ es.toList, GoodS w e) ∧ (es.toList.map keyS).Nodup ∧ (∀ k, S k = true ↔ k ∈ es.toList.map keyS) ∧
    es.size < scanBound ∧ t.fits es.size = true ∧ es.size = n ∧ Ris t.place.toList ∧ (w.params.followText "set-order" = true ∨ t.led = true)
section
variable {P : Program} {w : World} {h h' : Heap} {a : Addr} {S : Str → Bool} {n : Nat}

theorem SetS.at (R : SetS w h a S n) (k : ∀ o, h.get? a = some o → h'.get? a = some o) : SetS w h' a S n := by
  obtain ⟨o, es, ep, t, ho, r⟩ := R
  exact ⟨o, es, ep, t, k o ho, r⟩
theorem SetS.lt (R : SetS w h a S n) : a < h.objs.size := by
  obtain ⟨o, es, ep, t, ho, r⟩ := R
  exact Heap.lt_size ho
theorem SetS.congr {S' : Str → Bool} (R : SetS w h a S n) (e : ∀ k, S' k = S k) : SetS w h a S' n := by
  have q : S' = S := funext e
  rw [q]; exact R
theorem sgood_elems {l : List (Int × Value)} (g : ∀ e ∈ l, (GoodS w) e) : ElemsOf (PySem.strKind P w) l := fun e he => by
  obtain ⟨k, tk, h1, h2⟩ := g e he
  exact ⟨⟨k, by rw [h1]; exact strKind_is P w k tk, h2⟩, by rw [h1] <;> rfl⟩
theorem sgood_is {e : Int × Value} (g : (GoodS w) e) (k : Str) : (PySem.strKind P w).is k e.2 = true ↔ keyS e = k := by
  obtain ⟨k0, tk, h1, _⟩ := g
  unfold keyS
  rw [h1]
  show ((k0 == k) = true) ↔ k0 = k
  exact beq_iff_eq
theorem sgood_mem {l : List (Int × Value)} (g : ∀ e ∈ l, (GoodS w) e) (k : Str) : k ∈ l.map keyS ↔ ∃ e ∈ l, (PySem.strKind P w).is k e.2 = true := by
  rw [List.mem_map]
  constructor
  · rintro ⟨e, he, q⟩
    exact ⟨e, he, (sgood_is (g e he) k).2 q⟩
  · rintro ⟨e, he, q⟩
    exact ⟨e, he, (sgood_is (g e he) k).1 q⟩
theorem SetS.setOf (R : SetS w h a S n) : h.SetOf (PySem.strKind P w) a S n := by
  obtain ⟨o, es, ep, t, ho, hx, hd, g, nd, hm, hb, hf, hn, _⟩ := R
  exact ⟨o, es, ep, t, ho, hx, hd, sgood_elems g, fun k => (hm k).trans (sgood_mem g k), hb, hf, hn⟩
end
section
variable {P : Program} {w : World} {A : Around} {E : Value → Shared → Prop} {s : Shared} {a : Addr} {S : Str → Bool} {n : Nat}

/-! ### add -/
theorem setS_add_tail {g : Bool → Sem Unit} (hg : ∀ (b : Bool) (s₁ : Shared) (Q' : Unit → Shared → Prop), Q' () s₁ → wpAny (model P w) A (g b) Q' E s₁)
    {o : Obj} {es : Array (Int × Value)} {ep : Nat} {t : SetTable} (ho : s.heap.get? a = some o) (hex : o.ExactSet) (hd : o.data = .set es ep t)
    {es1 : Array (Int × Value)} {t2 : SetTable} {S' : Str → Bool} (g1 : ∀ e ∈ es1.toList, (GoodS w) e) (nd1 : (es1.toList.map keyS).Nodup) (m1 : ∀ k, S' k = true ↔ k ∈ es1.toList.map keyS)
    (hb1 : es1.size < scanBound) (hf2 : t2.fits es1.size = true) (hr : Ris t2.place.toList) (hl : w.params.followText "set-order" = true ∨ t2.led = true) {wasDummy : Bool} {R : Option Bool → Shared → Prop}
    (hR : ∀ h', Heap.SameBut a s.heap h' → SetS w h' a S' es1.size → R (some true) { s with heap := h' }) :
    wpAny (model P w) A (do
        storeSet a es1 t2
        if (!wasDummy && t2.tooFull) = true then do
            g (relayAll t2 es1 (SetTable.grown es1.size)).2.2
            storeSet a (relayAll t2 es1 (SetTable.grown es1.size)).1 (relayAll t2 es1 (SetTable.grown es1.size)).2.1
            pure (some true)
          else pure (some true)) R E s := by
  refine wpAny_bind (wpAny_storeSet_of ho hd ?_ (fits_of_scanBound hb1))
  have ho1 := store_at (es' := es1) (t' := t2) ho hd
  have sb1 := Heap.SameBut.update s.heap a (Obj.putSet es1 t2)
  split
  · have pm := relayAll_perm t2 es1 (SetTable.grown es1.size)
    have hf3 := relayAll_fits t2 es1 (SetTable.grown es1.size)
    have hr3 := relayAll_ris t2 es1 (SetTable.grown es1.size)
    have hl3 := relayAll_led t2 es1 (SetTable.grown es1.size)
    generalize relayAll t2 es1 (SetTable.grown es1.size) = Z at pm hf3 hr3 hl3 ⊢
    obtain ⟨es2, t3, gave⟩ := Z
    dsimp only at pm hf3 hr3 hl3 ⊢
    have hsz : es2.size = es1.size := by rw [← Array.length_toList, pm.length_eq, Array.length_toList]
    have hb2 : es2.size < scanBound := by rw [hsz]; exact hb1
    refine wpAny_bind (hg _ _ _ ?_)
    refine wpAny_bind (wpAny_storeSet_of ho1 rfl ?_ (fits_of_scanBound hb2))
    have ho2 := store_at (es' := es2) (t' := t3) ho1 rfl
    refine wpAny_pure (hR _ (sb1.trans (Heap.SameBut.update _ a _)) ?_)
    exact ⟨_, es2, _, t3, ho2, hex, rfl, fun e he => g1 e (pm.mem_iff.mp he), (pm.map keyS).nodup_iff.mpr nd1, fun k => (m1 k).trans (pm.map keyS).mem_iff.symm, hb2, hf3, hsz, hr3,
      hl.imp id fun z => by rw [hl3]; exact z⟩
  · exact wpAny_pure (hR _ sb1 ⟨_, es1, _, t2, ho1, hex, rfl, g1, nd1, m1, hb1, hf2, rfl, hr, hl⟩)

theorem setS_add_hashed {k : Str} {tk : Tok} {Q : Bool → Shared → Prop} (R : SetS w s.heap a S n) (room : n + 1 < scanBound)
    (hQ : ∀ h', Heap.SameBut a s.heap h' → SetS w h' a (fun j => S j || decide (j = k)) (if S k = true then n else n + 1) → Q (!S k) { s with heap := h' }) :
    wpAny (model P w) A (setAddHashed a (.str k tk) ((PySem.strKind P w).hash k)) Q E s := by
  obtain ⟨o, es, ep, t, ho, hex, hd, g, nd, hm, hb, hf, hn, hr, hl⟩ := R
  have hkey : (PySem.strKind P w).is k (.str k tk) = true := strKind_is P w k tk
  have hsc : (Value.str k tk).scannable = true := rfl
  have hel : ElemsOf (PySem.strKind P w) es.toList := sgood_elems g
  unfold setAddHashed setAddHashedIn
  refine wpAny_holding (wpAny_bind (wpAny_setState_of ho hd hf ?_))
  dsimp only
  rw [byScan_of hsc hb hel]
  simp only [↓reduceIte]
  unfold setAddByScan
  refine wpAny_bind ?_
  refine wpAny_bind (wpAny_rule ?_)
  refine wpAny_bind (wpAny_setScan_of hkey ho hd hf hel ?_)
  cases hfi : List.findIdx? (fun e => (PySem.strKind P w).is k e.2) es.toList with
  | some j =>
    dsimp only
    obtain ⟨hj, pj, _⟩ := List.findIdx?_eq_some_iff_getElem.mp hfi
    have hSk : S k = true := (hm k).2 ((sgood_mem (P := P) (w := w) g k).2 ⟨es.toList[j], List.getElem_mem hj, pj⟩)
    refine wpAny_pure (wpAny_pure ?_)
    have q := hQ s.heap (Heap.SameBut.refl a s.heap) ⟨o, es, ep, t, ho, hex, hd, g, nd, fun i => by
      rw [Bool.or_eq_true, decide_eq_true_eq, ← hm i]
      exact ⟨fun z => z.elim id (fun e => e ▸ hSk), .inl⟩, hb, hf, by rw [if_pos hSk]; exact hn, hr, hl⟩
    rw [hSk] at q
    exact q
  | none =>
    dsimp only
    have hnk : k ∉ es.toList.map keyS := fun z => by
      obtain ⟨e, he, q⟩ := (sgood_mem (P := P) (w := w) g k).1 z
      have c := List.findIdx?_eq_none_iff.mp hfi e he
      rw [q] at c
      cases c
    have hSk : S k = false := by
      cases q : S k with
      | false => rfl
      | true => exact absurd ((hm k).1 q) hnk
    have hgw : ∀ (b : Bool) {s₁ : Shared} {Q' : Unit → Shared → Prop}, Q' () s₁ → wpAny (model P w) A (match b with | true => rule "set.scan.the-table-gave-way" | false => pure ()) Q' E s₁ :=
      fun b s₁ Q' q => by cases b <;> first | exact wpAny_pure q | exact wpAny_rule q
    have pm := layNew_perm t es ((PySem.strKind P w).hash k) (.str k tk)
    have hf1 := layNew_fits t es ((PySem.strKind P w).hash k) (.str k tk)
    have hr1 := layNew_ris t es ((PySem.strKind P w).hash k) (.str k tk) hr
    have hl1 := layNew_led t es ((PySem.strKind P w).hash k) (.str k tk)
    generalize layNew t es ((PySem.strKind P w).hash k) (.str k tk) = Z at pm hf1 hr1 hl1 ⊢
    obtain ⟨es1, t1, wasDummy, gave⟩ := Z
    dsimp only at pm hf1 hr1 hl1 ⊢
    rw [Array.toList_push] at pm
    have pc : es1.toList.Perm (((PySem.strKind P w).hash k, Value.str k tk) :: es.toList) := pm.trans (List.perm_append_singleton _ _)
    have pk : (es1.toList.map keyS).Perm (k :: es.toList.map keyS) := pc.map keyS
    have g1 : ∀ e ∈ es1.toList, (GoodS w) e := fun e he => by
      rcases List.mem_cons.mp (pc.mem_iff.mp he) with z | z
      · rw [z]; exact ⟨k, tk, rfl, rfl⟩
      · exact g e z
    have nd1 : (es1.toList.map keyS).Nodup := pk.nodup_iff.mpr (List.nodup_cons.mpr ⟨hnk, nd⟩)
    have m1 : ∀ i, (S i || decide (i = k)) = true ↔ i ∈ es1.toList.map keyS := fun i => by
      rw [Bool.or_eq_true, decide_eq_true_eq, hm i, pk.mem_iff, List.mem_cons]
      exact Or.comm
    have hsz : es1.size = n + 1 := by rw [← Array.length_toList, pc.length_eq, List.length_cons, Array.length_toList, hn]
    have hb1 : es1.size < scanBound := by rw [hsz]; exact room
    have hled : w.params.followText "set-order" = true ∨ t1.led = true := hl.imp id fun z => by rw [hl1]; exact z
    have fin : ∀ h', Heap.SameBut a s.heap h' → SetS w h' a (fun j => S j || decide (j = k)) es1.size → Q true { s with heap := h' } := fun h' sb r => by
      have q := hQ h' sb
      rw [hSk] at q
      rw [hsz] at r
      exact q r
    refine wpAny_bind (hgw _ ?_)
    split
    · refine wpAny_bind ?_
      rw [hashByValue_scannable 8 hsc]
      refine wpAny_pure ?_
      refine setS_add_tail ?_ ho hex hd g1 nd1 m1 hb1 ?_ ?_ ?_ ?_
      · intro b s₁ Q' q; cases b <;> first | exact wpAny_pure q | exact wpAny_rule q
      · first | (split <;> first | exact hf1 | exact SetTable.fits_plain_off hf1) | exact hf1
      · first | (split <;> exact hr1) | exact hr1
      · first | (split <;> exact hled) | exact hled
      · intro h' sb r; dsimp only; exact wpAny_pure (fin h' sb r)
    · refine wpAny_bind (wpAny_pure ?_)
      simp only [↓reduceIte]
      refine setS_add_tail ?_ ho hex hd g1 nd1 m1 hb1 hf1 hr1 hled ?_
      · intro b s₁ Q' q; cases b <;> first | exact wpAny_pure q | exact wpAny_rule q
      · intro h' sb r; dsimp only; exact wpAny_pure (fin h' sb r)

end

theorem setS_new_at {w : World} {h : Heap} {a : Addr} {ns : List Str} (ho : h.get? a = some { cls := .type "set", dict := none, data := .set #[] 0 (.fresh 0 0 (!w.params.followText "set-order")) }) : SetS w h a (fun j => decide (j ∈ ns.take 0)) 0 :=
  ⟨_, #[], 0, _, ho, ⟨rfl, rfl, rfl⟩, rfl, (fun e he => by simp at he), (by simp), (fun k => by simp), (by decide), (by rfl), rfl, List.Pairwise.nil, by
    show _ ∨ (!w.params.followText "set-order") = true
    cases w.params.followText "set-order"
    · exact .inr rfl
    · exact .inl rfl⟩
section
variable {P : Program} {w : World} {A : Around} {E : Value → Shared → Prop} {s : Shared}
theorem set_update_texts {I : Addr} {fp wr : List Addr} {G : Array GenState → Array GenState → Prop} {n : Nat} {Pv : Nat → Value → Prop} {St : Nat → Shared → Prop} {R : Result → Shared → Prop}
    (W : WalksS P w A.in1 I fp wr G n Pv St) (S : Addr) (hSf : S ∉ fp) (ns : List Str) (hn : n = ns.length) (hb : ns.length + 1 < scanBound) (hval : ∀ i v, Pv i v → ∃ k t, ns[i]? = some k ∧ v = .str k t) :
    ∀ (k i : Nat) (s : Shared), n - i = k → i ≤ n → St i s → (∃ c, c ≤ i ∧ SetS w s.heap S (fun j => decide (j ∈ ns.take i)) c) →
      (∀ s' c, Moved (S :: wr) G s s' → c ≤ n → SetS w s'.heap S (fun j => decide (j ∈ ns)) c → R (.ok (.ret .none)) s') →
      codeAny (model P w) A (.builtin "set.update.loop" ⟨[.ref S, .ref I], []⟩) R s := by
  have hSw : S ∉ wr := fun h => hSf (W.sub _ h)
  have hsub : ∀ b ∈ wr, b ∈ S :: wr := fun b hb => List.mem_cons_of_mem _ hb
  intro k
  induction k with
  | zero =>
    intro i s hk' hi hst ⟨c, hc, hS⟩ hR
    have hin : i = n := by omega
    subst hin
    refine codeAny_builtin F.entry_set_update_loop ?_
    rw [Around.under_plainId F.plain_set_update_loop _]
    show wpAny _ A.in1 (pyNext (.ref I) >>= _) _ _ s
    refine wpAny_bind (W.done s _ _ hst fun s' hm => ?_)
    show wpAny _ A.in1 (ret Value.none) _ _ s'
    have e : ns.take i = ns := List.take_of_length_le (by omega)
    rw [e] at hS
    exact wpAny_pure (hR s' c (hm.mono hsub) hc (hS.at fun o e => hm.heap S o hSw e))
  | succ k ih =>
    intro i s hk' hi hst ⟨c, hc, hS⟩ hR
    have hlt : i < n := by omega
    refine codeAny_builtin F.entry_set_update_loop ?_
    rw [Around.under_plainId F.plain_set_update_loop _]
    show wpAny _ A.in1 (pyNext (.ref I) >>= _) _ _ s
    refine wpAny_bind (W.item i s _ _ hlt hst fun v s' hP hst' hm => ?_)
    obtain ⟨z, t, hz, rfl⟩ := hval i v hP
    have hS' : SetS w s'.heap S (fun j => decide (j ∈ ns.take i)) c := hS.at fun o e => hm.heap S o hSw e
    show wpAny _ A.in1 (holding [Value.str z t] (setAdd S (.str z t)) >>= _) _ _ s'
    refine wpAny_bind (wpAny_holding ?_)
    unfold setAdd
    refine wpAny_holding ?_
    refine wpAny_bind ((PySem.strKind P w).pyHash (k := z) (strKind_is _ _ _ _) ?_)
    refine setS_add_hashed (s := { s' with toks := s'.toks + 1 }) hS' (by omega) fun h' hsb hS2 => ?_
    have hS3 : SetS w h' S (fun j => decide (j ∈ ns.take (i + 1))) (if decide (z ∈ ns.take i) = true then c else c + 1) := hS2.congr fun j => by
      rw [List.take_add_one, hz]
      simp [List.mem_append]
    have hc3 : (if decide (z ∈ ns.take i) = true then c else c + 1) ≤ i + 1 := by
      split <;> omega
    refine wpAny_pure ⟨plainId_quiet F.plain_set_update_loop _, ih (i + 1) _ (by omega) hlt (W.frame _ s' _ _ hst' (Nat.le_succ _) fun b hb o e => ?_) ⟨_, hc3, hS3⟩ fun s'' c2 hm'' hc'' hS'' => ?_⟩
    · rw [hsb.2 b (fun h : b = S => hSf (by rw [← h]; exact hb))]; exact e
    · refine hR s'' c2 (Moved.trans W.gtrans ((hm.mono hsub).then_heap (Nat.le_succ _) fun b o hb e => ?_) hm'') hc'' hS''
      rw [hsb.2 b (fun h : b = S => hb (by rw [h]; exact List.mem_cons_self))]; exact e

theorem call_set_texts {l : Addr} {items : Array Value} (ns : List Str) {Q : Value → Shared → Prop} (hh : A.handled = none) (hl : s.heap.IsList l items) (hit : StrsAre items.toList ns) (hb : ns.length + 1 < scanBound)
    (h : ∀ (h' : Heap) (tk c : Nat), SetS w h' s.heap.objs.size (fun j => decide (j ∈ ns)) c → c ≤ ns.length → (∀ b o, s.heap.get? b = some o → h'.get? b = some o) → Q (.ref s.heap.objs.size) { s with heap := h', toks := tk }) :
    wpAny (model P w) A (call (.type "set") [.ref l]) Q E s := by
  have hisz : items.size = ns.length := by
    have q := StrsAre.length hit
    rw [Array.length_toList] at q
    exact q
  obtain ⟨c, tl, hmro⟩ := F.called_set.mro
  have hmade := F.called_set.made
  have hsub := F.called_set.sub
  refine wpAny_call (codeAny_of_tree ?_)
  show wpAny _ _ (callAny (.type "set") _) _ _ _
  refine wpAny_pure ⟨Code.quiet_builtin _ (by decide +kernel), codeAny_builtin F.entry_type_call ?_⟩
  rw [Around.under_plain (weight_type_call_type "set" [.ref l] []) rfl]
  have h1 := F.called_set.notType
  have h2 := F.called_set.canCreate
  have hct := F.typeCall_set_1 (.ref l)
  repeat (any_goals (first | assumption | wp_step))

  refine codeAny_mono (code_set_led1 (.ref l) (E := E) (Q₁ := fun obj s₁ => obj = .ref s.heap.objs.size ∧ s₁ = { s with heap := s.heap.push { cls := .type "set", dict := none, data := .set #[] 0 (.fresh 0 0 (!w.params.followText "set-order")) } }) ⟨rfl, rfl⟩) fun r s₁ hr => ?_
  cases r with
  | error e => exact hr
  | ok fl =>
    cases fl with
    | ret obj =>
      obtain ⟨rfl, rfl⟩ := hr
      have hS : (s.heap.push { cls := .type "set", dict := none, data := .set #[] 0 (.fresh 0 0 (!w.params.followText "set-order")) }).get? s.heap.objs.size = some { cls := .type "set", dict := none, data := .set #[] 0 (.fresh 0 0 (!w.params.followText "set-order")) } := Heap.get?_push_size _ rfl
      have hT : Shared.TypeIs { s with heap := s.heap.push { cls := .type "set", dict := none, data := .set #[] 0 (.fresh 0 0 (!w.params.followText "set-order")) } } (.ref s.heap.objs.size) "set" := ⟨_, hS, rfl⟩
      have hli := F.called_set.init.lookup
      have hbi := F.called_set.init.bind (.ref s.heap.objs.size)
      repeat (any_goals (first | assumption | wp_step))

      refine codeAny_mono (codeAny_call_builtin (R := wants (fun r s₂ => r = .none ∧ ∃ h' tk c, s₂ = { s with heap := h', toks := tk } ∧ SetS w h' s.heap.objs.size (fun j => decide (j ∈ ns)) c ∧ c ≤ ns.length ∧
          (∀ b o, s.heap.get? b = some o → h'.get? b = some o)) E) F.called_set.init.plain F.entry_set_init (check_set_init_1 hT ?_)) fun r₂ s₂ hr₂ => ?_
      · obtain ⟨ol, hol, hcl, nl, hdl⟩ := hl
        obtain ⟨ocls, odict, odata, oslots⟩ := ol
        simp only at hcl hdl
        subst hcl; subst hdl
        have hol' : (s.heap.push { cls := .type "set", dict := none, data := .set #[] 0 (.fresh 0 0 (!w.params.followText "set-order")) }).get? l = some { cls := .type "list", dict := odict, data := .seq items nl, slots := oslots } := Heap.get?_push_of_some _ hol
        have hsls := F.sub_list_set
        have hslf := F.sub_list_frozenset
        have hne : (Value.type "list" == Value.type "dict") = false := by decide
        have hl1 : (s.heap.push { cls := .type "set", dict := none, data := .set #[] 0 (.fresh 0 0 (!w.params.followText "set-order")) }).IsList l items := ⟨_, hol', rfl, nl, rfl⟩
        unfold Builtin.«set.__init__» noKeywords Builtin.Frozenset.updateFrom
        generalize hPI : pyIter = PI
        wp_walk
        subst hPI

        refine wpAny_pyIter_list hl1 ?_
        refine wpAny_bind (wpAny_runValue ?_)
        have hlS : l < s.heap.objs.size := Heap.lt_size hol
        have hh3 : A.in1.in1.in1.handled = none := by simp [hh]
        have hz1 : (s.heap.push { cls := .type "set", dict := none, data := .set #[] 0 (.fresh 0 0 (!w.params.followText "set-order")) }).objs.size = s.heap.objs.size + 1 := Heap.size_push ..
        have hneI : l ≠ (s.heap.push { cls := .type "set", dict := none, data := .set #[] 0 (.fresh 0 0 (!w.params.followText "set-order")) }).objs.size := by
          rw [Heap.size_push]; exact Nat.ne_of_lt (Nat.lt_succ_of_lt hlS)
        have hSf : s.heap.objs.size ∉ [(s.heap.push { cls := .type "set", dict := none, data := .set #[] 0 (.fresh 0 0 (!w.params.followText "set-order")) }).objs.size, l] := by
          rw [Heap.size_push]; simp only [List.mem_cons, List.mem_singleton, List.not_mem_nil, or_false, not_or]
          exact ⟨Nat.ne_of_lt (Nat.lt_succ_self _), Nat.ne_of_gt hlS⟩
        have hval : ∀ (i : Nat) (v : Value), items[i]? = some v → ∃ k t, ns[i]? = some k ∧ v = .str k t := fun i v hv => by
          have hi : i < ns.length := by rw [← hisz]; exact (Array.getElem?_eq_some_iff.mp hv).1
          obtain ⟨y, t, e, hy⟩ := PyProof.Rows.StrsAre.item hit i v (by rw [Array.getElem?_toList]; exact hv)
          exact ⟨y, t, hy, e⟩
        refine set_update_texts ((Walks.list hh3 _ l hneI items).toS) s.heap.objs.size
          hSf ns hisz hb hval (items.size - 0) 0 _ (by omega) (Nat.zero_le _)
          ⟨⟨_, Heap.get?_push_size _ rfl, rfl, rfl⟩, (hl1.push _)⟩ ?hS0 ?hR
        case hS0 =>
          have hget : ((s.heap.push { cls := .type "set", dict := none, data := .set #[] 0 (.fresh 0 0 (!w.params.followText "set-order")) }).push { cls := .type "list_iterator", data := .fields #[.ref l, .int 0 0] }).get? s.heap.objs.size
              = some { cls := .type "set", dict := none, data := .set #[] 0 (.fresh 0 0 (!w.params.followText "set-order")) } := Heap.get?_push_of_some _ hS
          exact ⟨0, Nat.le_refl 0, setS_new_at hget⟩
        case hR =>
          intro s' c' hm hc' hS'
          obtain ⟨h', g2, d', tk', os'⟩ := s'
          have eg : g2 = s.gens := hm.gens
          have ed : d' = s.drawn := hm.drawn
          have eo : os' = s.os := hm.os
          subst eg; subst ed; subst eo
          show wpAny _ _ _ _ _ _
          refine wpAny_pure ?_
          show wpAny _ _ (ret Value.none) _ _ _
          rw [hisz] at hc'
          refine wpAny_pure ⟨rfl, h', tk', c', rfl, hS', hc', fun b o e => ?_⟩
          have hb0 : b < s.heap.objs.size := Heap.lt_size e
          have hb1 : b ≠ s.heap.objs.size := Nat.ne_of_lt hb0
          have hb2 : b ≠ (s.heap.push { cls := .type "set", dict := none, data := .set #[] 0 (.fresh 0 0 (!w.params.followText "set-order")) }).objs.size := by
            rw [Heap.size_push]; exact Nat.ne_of_lt (Nat.lt_succ_of_lt hb0)
          exact hm.heap b o (by simp only [List.mem_cons, List.mem_singleton, List.not_mem_nil, or_false, not_or]; exact ⟨hb1, hb2⟩) (Heap.get?_push_of_some _ (Heap.get?_push_of_some _ e))

      · cases r₂ with
        | error e => exact hr₂
        | ok fl₂ =>
          cases fl₂ with
          | ret r =>
            obtain ⟨rfl, h', tk, c', rfl, hS', hc', hk'⟩ := hr₂
            repeat (any_goals (first | assumption | wp_step))
            exact h _ _ _ hS' hc' hk'
          | _ => exact hr₂.elim
    | _ => exact hr.elim

end

section
variable {P : Program} {w : World} {A : Around} {E : Value → Shared → Prop} {s : Shared} {a : Addr}
theorem sorted_setS {S : Str → Bool} {n : Nat} {Q : Value → Shared → Prop} (R : SetS w s.heap a S n) (hh : A.handled = none) (h64 : n < 64)
    (hQ : ∀ s' p (out : Array Value) (c : Nat) (ns : List Str), (∀ b o, s.heap.get? b = some o → s'.heap.get? b = some o) → s'.gens = s.gens → s'.os = s.os → s.heap.objs.size ≤ p →
      s'.heap.get? p = some (seqObj "list" out c) → StrsAre out.toList ns → sortedS ns = true → ns.Nodup → (∀ k, k ∈ ns ↔ S k = true) → ns.length = n → Q (.ref p) s') :
    wpAny (model P w) A (call (.builtin "sorted") [.ref a]) Q E s := by
  obtain ⟨o, es, ep, t, ho, hex, hd, g, nd, hm, hb, hf, hn, hr, hl⟩ := R
  refine Calls.call_function_entry kind_sorted plain_sorted entry_sorted (args_sorted1 _) ?_
  unfold Builtin.«sorted»
  refine wpAny_bind (m := checkCount "sorted" 1 1 _) (wpAny_pure ?_)
  refine wpAny_bind (collect_set (A := A.in1) hh ⟨o, ho, hex.1, hd⟩ hf hb hr hl fun s1 vs k1 hz g1 o1 pm => ?_)
  have hvl : vs.length = n := by rw [pm.length_eq, List.length_map, Array.length_toList]; exact hn
  have hI : StrsAre vs (vs.map strOf) := strsAre_map vs fun v hv => by
    obtain ⟨e, he, q⟩ := List.mem_map.mp (pm.mem_iff.mp hv)
    obtain ⟨k, tk, h1, _⟩ := g e he
    exact ⟨k, tk, by rw [← q]; exact h1⟩
  have pk : (vs.map strOf).Perm (es.toList.map keyS) := by
    have q := pm.map strOf
    rw [List.map_map] at q
    have e : es.toList.map (strOf ∘ fun x => x.2) = es.toList.map keyS := List.map_congr_left fun x hx => by
      obtain ⟨k, tk, h1, _⟩ := g x hx
      show strOf x.2 = keyS x
      unfold keyS
      rw [h1]; rfl
    rw [e] at q
    exact q
  refine wpAny_bind (wpAny_newList ?_ (by rw [hvl, sizeLine_eq]; omega))
  have hoL : (s1.heap.push (seqObj "list" vs.toArray 0)).get? s1.heap.objs.size = some (seqObj "list" vs.toArray 0) := Heap.get?_push_size _ rfl
  refine wpAny_bind (wpAny_holding (wpAny_call_entry slot_list_sort ⟨_, hoL, rfl⟩ entry_list_sort (list_sort_treeK strKind_oneLt hoL hI.keysOf (fun v₁ v₂ rest e => keyKind_strs (by rw [← e]; exact hI)) (by rw [hvl]; exact h64) fun st' hp hs => ⟨_, rfl, ?_⟩) (args_list_sort _)))
  obtain ⟨ns', a1, a2, a3⟩ := sorted_out_str hI hp hs
  obtain ⟨c, hc⟩ := sortedHeap_at (vs := vs) (out := (arrOf st').map (·.2)) hoL
  have pn : ns'.Perm (es.toList.map keyS) := a2.trans pk
  refine wpAny_pure ⟨_, rfl, hQ _ s1.heap.objs.size _ c ns' (fun b u e => ?_) g1 o1 hz hc a1 a3 (pn.nodup_iff.mpr nd) (fun k => by rw [pn.mem_iff, ← hm k]) ?_⟩
  · have q := k1 b u e
    have hlt := Heap.lt_size q
    show (sortedHeap (s1.heap.push (seqObj "list" vs.toArray 0)) s1.heap.objs.size vs _).get? b = some u
    rw [sortedHeap_old (Nat.ne_of_lt hlt) (by rw [size_push']; exact Nat.lt_succ_of_lt hlt)]
    exact Heap.get?_push_of_some _ q
  · rw [pn.length_eq, List.length_map, Array.length_toList]; exact hn
end
/-! ### as rules -/
def SetSO (w : World) (a : Addr) (S : Str → Bool) (n : Nat) : HO := .ext fun h => SetS w h a S n
theorem setSO_new {w : World} {P : Program} {H : Hp} {h : Heap} {a : Addr} {S : Str → Bool} {n : Nat} (R : SetS w h a S n) : ObjOk P w H h a (SetSO w a S n) := by
  have ⟨o, _, _, _, ho, _⟩ := R
  exact ⟨R, ⟨o, ho⟩, fun h1 h2 p k => SetS.at p k⟩
section
variable {X : Cx}
def rSetOfS (K : PySem.W.Frag) (w : World) : List V → Hp → VK → Prop := fun xs H Q => ∃ (l : Addr) (ns : List Str), xs = [V.ref l] ∧ SqL K H l (ns.map V.str) ∧ ns.length ≤ 1000 ∧
  ∀ a c, H a = none → c ≤ ns.length → Q (.ref a) (upd H a (SetSO w a (fun j => decide (j ∈ ns)) c))
theorem cr_setOfS {K : PySem.W.Frag} {w : World} (hc : X.calm = true) (hK : X.K = K := by rfl) (hw : X.w = w := by rfl) : CallR X (.type "set") (rSetOfS K w) := by
  subst hK hw
  intro pins s σ H xs us Q I r h
  obtain ⟨l, ns, rfl, hl, hf, q⟩ := h
  rw [Vals.ref1 r]
  obtain ⟨its, rv, pl, hz⟩ := I.list hl
  have hn : H s.heap.objs.size = none := I.hok.fresh (Nat.le_refl _)
  refine call_set_texts (P := X.prog) (w := X.w) ns (I.ok.hd hc) pl.isList (by simpa using rv.strs) (by unfold scanBound; omega) fun h' tk c R hcl k => ?_
  exact ⟨.ref s.heap.objs.size, upd H s.heap.objs.size (SetSO X.w s.heap.objs.size (fun j => decide (j ∈ ns)) c), I.laid (t' := tk) k (Nat.le_refl _) (setSO_new R), rfl, q _ c hn hcl⟩
def rSortedSS (w : World) : List V → Hp → VK → Prop := fun vs H Q => ∃ (a : Addr) (S : Str → Bool) (n : Nat), vs = [V.ref a] ∧ H a = some (SetSO w a S n) ∧ n < 64 ∧
  ∀ (ns : List Str) (p : Addr), sortedS ns = true → ns.Nodup → (∀ k : Str, k ∈ ns ↔ S k = true) → ns.length = n → H p = none → Q (.ref p) (upd H p (.lst (ns.map V.str)))
theorem cr_sortedSS {w : World} (hc : X.calm = true) (hw : X.w = w := by rfl) : CallR X (.builtin "sorted") (rSortedSS w) := by
  subst hw
  intro pins s σ H vs us Q I r h
  obtain ⟨a, S, n, rfl, ha, h64, q⟩ := h
  have R : SetS X.w s.heap a S n := (I.hok a _ ha).1
  rw [Vals.ref1 r]
  refine sorted_setS R (I.ok.hd hc) h64 fun s' p out c ns k g o hp hg hi hs hd hm hl => ?_
  have hlen : (ns.map V.str).length ≤ sizeLine := by rw [List.length_map, hl, sizeLine_eq]; omega
  have hn : H p = none := I.hok.fresh hp
  have J : Inv X pins σ (upd H p (.lst (ns.map V.str))) { s with heap := s'.heap, gens := s'.gens, drawn := s'.drawn, toks := s'.toks } :=
    I.call (ch := []) (Un.laid k hp hn) (I.hok.laid k hp ⟨hlen, out.toList, c, vals_of_strs hi, hg⟩) (by rw [g]; exact I.bare) (fun _ z => nomatch z)
  have e : s' = { s with heap := s'.heap, gens := s'.gens, drawn := s'.drawn, toks := s'.toks } := by
    cases s'
    cases s
    cases o
    rfl
  rw [e]
  exact ⟨.ref p, _, J, rfl, q ns p hs hd hm hl hn⟩
end
/-! ### sorted of what comes, with sets of texts -/
def uSortedX (K : PySem.W.Frag) (w : World) : List V → Hp → VK → Prop := fun vs H Q => uSorted K vs H Q ∨ rSortedSS w vs H Q
theorem cr_usortedX {X : Cx} {K : PySem.W.Frag} {w : World} (hc : X.calm = true) (hK : X.K = K := by rfl) (hw : X.w = w := by rfl) : CallR X (.builtin "sorted") (uSortedX K w) := by
  subst hK hw
  exact CallR.or cr_usorted (cr_sortedSS hc)
section
variable {H : Hp} {Q : VK} {K : PySem.W.Frag} {w : World} {a : Addr}
theorem v_set_of {ns : List Str} (h : SqL K H a (ns.map V.str)) (hl : ns.length ≤ 1000) (q : ∀ p c H', H p = none → Chg [] H H' → c ≤ ns.length → H' p = some (SetSO w p (fun j => decide (j ∈ ns)) c) → Q (.ref p) H') : rSetOfS K w [.ref a] H Q :=
  ⟨a, ns, rfl, h, hl, fun p c hp hc => q p c _ hp (.new hp) hc upd_same⟩
theorem v_sorted_set {S : Str → Bool} {n : Nat} (h : H a = some (SetSO w a S n)) (hn : n < 64) (q : ∀ (ns : List Str) p H', sortedS ns = true → ns.Nodup → (∀ k, k ∈ ns ↔ S k = true) → ns.length = n → H p = none → Chg [] H H' → H' p = some (.lst (ns.map V.str)) → Q (.ref p) H') : uSortedX K w [.ref a] H Q :=
  .inr ⟨a, S, n, rfl, h, hn, fun ns p h1 h2 h3 h4 hp => q ns p _ h1 h2 h3 h4 hp (.new hp) upd_same⟩
theorem v_sorted_strs {xs : List Str} (h : SqL K H a (xs.map V.str)) (hn : xs.length < 64) (q : ∀ (ys : List Str) p H', ys.Perm xs → sortedS ys = true → H p = none → Chg [] H H' → H' p = some (.lst (ys.map V.str)) → Q (.ref p) H') : uSortedX K w [.ref a] H Q :=
  .inl (.inl (.inr ⟨a, xs, rfl, h, hn, fun ys p h1 h2 hp => q ys p _ h1 h2 hp (.new hp) upd_same⟩))
end
/-! two sorted lists of the same texts, each once, are one -/
theorem ltS_asymm {a b : Str} (h : ltCps a.cps.toList b.cps.toList = true) : ltCps b.cps.toList a.cps.toList = false := by
  rw [ltCps_eq] at *
  rw [decide_eq_true_eq] at h
  exact decide_eq_false (List.lt_asymm h)
theorem ltS_total {a b : Str} (h1 : ltCps a.cps.toList b.cps.toList = false) (h2 : ltCps b.cps.toList a.cps.toList = false) : a = b := by
  rw [ltCps_eq] at *
  have h1 := of_decide_eq_false h1
  have h2 := of_decide_eq_false h2
  have e : a.cps.toList = b.cps.toList := List.le_antisymm (List.not_lt.mp h2) (List.not_lt.mp h1)
  cases a; cases b
  simp only [Str.mk.injEq]
  exact Array.toList_inj.mp e
theorem pairwise_of_sortedS : ∀ {l : List Str}, sortedS l = true → l.Pairwise (fun a b => ltCps b.cps.toList a.cps.toList = false)
  | [], _ => .nil
  | [x], _ => by simp
  | x :: y :: l, h => by
    have h : (!ltCps y.cps.toList x.cps.toList && risingS y l) = true := h
    rw [Bool.and_eq_true] at h
    have ih := pairwise_of_sortedS (l := y :: l) h.2
    refine List.Pairwise.cons ?_ ih
    have h1 : ltCps y.cps.toList x.cps.toList = false := by simpa using h.1
    intro b hb
    rcases List.mem_cons.mp hb with rfl | hb
    · exact h1
    · have h2 := (List.pairwise_cons.mp ih).1 b hb
      rw [ltCps_eq] at *
      have h1 := List.not_lt.mp (of_decide_eq_false h1)
      have h2 := List.not_lt.mp (of_decide_eq_false h2)
      exact decide_eq_false (List.not_lt.mpr (List.le_trans h1 h2))
theorem sortedS_eq : ∀ {l m : List Str}, sortedS l = true → sortedS m = true → l.Nodup → m.Nodup → (∀ z, z ∈ l ↔ z ∈ m) → l = m := by
  intro l m h1 h2 n1 n2 h
  have p : l.Perm m := (List.perm_ext_iff_of_nodup n1 n2).mpr h
  exact p.eq_of_pairwise (fun a b _ _ x y => ltS_total y x) (pairwise_of_sortedS h1) (pairwise_of_sortedS h2)
end RT

namespace RT
open PySem PySem.Spec PyProof.Rows L2
/-! ## 19. programs: bounds, slices, rows by their numbers -/
/-- a name: one to six small letters -/
def isNm (z : Str) : Bool := decide (1 ≤ z.length) && decide (z.length ≤ 6) && z.cps.toList.all fun c => decide (97 ≤ c) && decide (c ≤ 122)
def fcnt (fs : List (Str × List Str × List Str × List Rw)) : Nat := (fs.map fun f => Rw.cnts f.2.2.2 + 1).sum
/-- all names short -/
def Nms.nm (N : Nms) : Prop := (∀ z, N.B z → isNm z = true) ∧ (∀ z, N.L z → isNm z = true) ∧ (∀ z n, N.F z n → isNm z = true) ∧ (∀ z, N.Dr z → isNm z = true)
structure PgOk (p : Pg) : Prop where
  lb : p.bx.length ≤ 3
  ll : p.ls.length ≤ 3
  lf : p.fs.length ≤ 4
  nb : ∀ b ∈ p.bx, isNm b.1 = true ∧ 0 ≤ b.2 ∧ b.2 < 1000000
  nl : ∀ l ∈ p.ls, isNm l.1 = true ∧ l.2.length ≤ 12 ∧ ∀ i ∈ l.2, 0 ≤ i ∧ i < 1000000
  nf : ∀ f ∈ p.fs, isNm f.1 = true ∧ f.2.1.length ≤ 3 ∧ f.2.2.1.length ≤ 3 ∧ (∀ z ∈ f.2.1, isNm z = true) ∧ (∀ z ∈ f.2.2.1, isNm z = true) ∧ (∃ N : Nms, N.nm ∧ Rw.oks N f.2.2.2) ∧ Rw.dpts f.2.2.2 ≤ 5
  ro : (∃ N : Nms, N.nm ∧ Rw.oks N p.rows) ∧ Rw.dpts p.rows ≤ 5
  cn : fcnt p.fs + Rw.cnts p.rows ≤ 62
  nd : (p.bx.map (·.1) ++ p.ls.map (·.1)).Nodup
/-! slices of texts -/
theorem cutV_map {α : Type} (f : α → V) (zs : List α) (lo hi : Option Int) : cutV (zs.map f) lo hi = (cutL zs lo hi).map f := by
  unfold cutV cutL
  rw [List.length_map, List.map_take, List.map_drop]
theorem cutL_mem {α : Type} {zs : List α} {lo hi : Option Int} {z : α} (h : z ∈ cutL zs lo hi) : z ∈ zs := List.mem_of_mem_drop (List.mem_of_mem_take h)
theorem cutL_len {α : Type} (zs : List α) (lo hi : Option Int) : (cutL zs lo hi).length ≤ zs.length := by
  unfold cutL
  rw [List.length_take, List.length_drop]; omega
theorem cutL_hi {α : Type} (zs : List α) {k : Int} (h : 0 ≤ k) : ((cutL zs none (some k)).length : Int) ≤ k := by
  unfold cutL
  obtain ⟨n, rfl⟩ := Int.eq_ofNat_of_zero_le h
  rw [List.length_take, List.length_drop, HT.sIx_none, HT.sIx_nat]
  show ((min (min n zs.length - 0) (zs.length - 0) : Nat) : Int) ≤ _
  omega
section
variable {H : Hp} {Q : VK} {K : PySem.W.Frag}
theorem v_sl_strs {a : Addr} {zs : List Str} {lo hi : Option Int} (h : SqL K H a (zs.map V.str)) (q : ∀ p H', H p = none → Chg [] H H' → H' p = some (.lst ((cutL zs lo hi).map V.str)) → Q (.ref p) H') : uSl K (.ref a) lo hi H Q :=
  v_sl_l h fun p H' n c e => q p H' n c (by rw [cutV_map] at e; exact e)
theorem v_add_strs {a b : Addr} {xs ys : List Str} (h1 : H a = some (.lst (xs.map V.str))) (h2 : H b = some (.lst (ys.map V.str))) (hl : xs.length + ys.length ≤ 10000)
    (q : ∀ p H', H p = none → Chg [] H H' → H' p = some (.lst ((xs ++ ys).map V.str)) → Q (.ref p) H') : uAdd K (.ref a) (.ref b) H Q :=
  v_add_ll h1 h2 ((by rw [sizeLine_eq]; have := hl; simp only [List.length_map]; omega)) fun p H' n c e => q p H' n c (by rw [List.map_append]; exact e)
/-- one of a few numbers -/
theorem v_ix_ints {a : Addr} {ns : List Int} {i : Int} (h : H a = some (.lst (ns.map V.int))) (h0 : 0 ≤ i) (h1 : i < ns.length) (q : ∀ m, m ∈ ns → Q (.int m) H) : uIx K (.ref a) (.int i) H Q :=
  v_ix_lany (SqL.of h) h0 (by rw [List.length_map]; exact h1) fun v hv => by
    obtain ⟨m, hm, rfl⟩ := List.mem_map.mp (List.mem_of_getElem? hv)
    exact q m hm
end
theorem cutL_pre {α : Type} (zs : List α) {m : Int} (h : 0 ≤ m) : cutL zs none (some m) = zs.take (min m.toNat zs.length) := by
  obtain ⟨k, rfl⟩ := Int.eq_ofNat_of_zero_le h
  unfold cutL
  rw [HT.sIx_none, HT.sIx_nat]
  simp
theorem cutL_post {α : Type} (zs : List α) (k : Nat) : cutL zs (some (k : Int)) none = zs.drop k := by
  unfold cutL
  rw [HT.sIx_none, HT.sIx_nat]
  by_cases h : k ≤ zs.length
  · rw [Nat.min_eq_left h]
    exact List.take_of_length_le (by rw [List.length_drop]; exact Nat.le_refl _)
  · rw [Nat.min_eq_right (by omega), List.drop_of_length_le (Nat.le_refl _), List.drop_of_length_le (by omega)]
    simp
theorem nd_parts {zs : List Str} (hn : zs.Nodup) {m1 m2 : Int} (h0 : 0 ≤ m1) (h1 : m1 ≤ 3) (h2 : 0 ≤ m2) : (cutL zs none (some m1) ++ cutL (cutL zs (some 3) none) none (some m2)).Nodup := by
  rw [cutL_pre _ h0, show (some (3 : Int)) = some ((3 : Nat) : Int) from rfl, cutL_post, cutL_pre _ h2]
  have s1 : (zs.take (min m1.toNat zs.length)).Sublist (zs.take 3) := by
    rw [show zs.take (min m1.toNat zs.length) = (zs.take 3).take (min m1.toNat zs.length) by rw [List.take_take]; congr 1; omega]
    exact List.take_sublist _ _
  have s2 := (s1.append (List.take_sublist (min m2.toNat (zs.drop 3).length) (zs.drop 3)))
  rw [List.take_append_drop] at s2
  exact s2.nodup hn
theorem fcnt_app (a b : List (Str × List Str × List Str × List Rw)) : fcnt (a ++ b) = fcnt a + fcnt b := by simp [fcnt]
/-! ### rows by their numbers -/
abbrev En := Str ⊕ Rw
def dE : En → D
  | .inl n => .tup [.str "def", .str n]
  | .inr r => r.d
abbrev Tr := Int × En × Int
def tD (t : Tr) : D := .tup [.int t.1, dE t.2.1, .int t.2.2]
mutual
def numR : Nat → Int → Rw → List Tr
  | n, a, .ife v x y => ((n : Int), .inr (.ife v x y), a) :: (numRs (n + 1) n x ++ numRs (n + 1 + Rw.cnts x) n y)
  | n, a, .whl v x => ((n : Int), .inr (.whl v x), a) :: numRs (n + 1) n x
  | n, a, .tr x b y => ((n : Int), .inr (.tr x b y), a) :: (numRs (n + 1) n x ++ numRs (n + 1 + Rw.cnts x) n y)
  | n, a, r => [((n : Int), .inr r, a)]
def numRs : Nat → Int → List Rw → List Tr
  | _, _, [] => []
  | n, a, r :: l => numR n a r ++ numRs (n + r.cnt) a l
end
def Rw.ins : Rw → List (List Rw)
  | .ife _ x y => [x, y]
  | .whl _ x => [x]
  | .tr x _ y => [x, y]
  | _ => []
def Rw.inl (r : Rw) : List Rw := r.ins.flatten
theorem numRs_app : ∀ (n : Nat) (a : Int) (l m : List Rw), numRs n a (l ++ m) = numRs n a l ++ numRs (n + Rw.cnts l) a m
  | n, a, [], m => by simp [numRs, Rw.cnts]
  | n, a, r :: l, m => by
    rw [List.cons_append, numRs, numRs, numRs_app (n + r.cnt) a l m, Rw.cnts, List.append_assoc, Nat.add_assoc]
theorem Rw.cnt_inl (r : Rw) : r.cnt = Rw.cnts r.inl + 1 := by
  cases r <;> simp [Rw.cnt, Rw.inl, Rw.ins, Rw.cnts, Rw.cnts_app]
theorem numR_eq (n : Nat) (a : Int) (r : Rw) : numR n a r = ((n : Int), .inr r, a) :: numRs (n + 1) n r.inl := by
  cases r <;> simp [numR, Rw.inl, Rw.ins, numRs, numRs_app]
theorem numRs_cons (n : Nat) (a : Int) (r : Rw) (l : List Rw) : numRs n a (r :: l) = numR n a r ++ numRs (n + r.cnt) a l := by rw [numRs]
mutual
theorem len_numR : ∀ (r : Rw) (n : Nat) (a : Int), (numR n a r).length = r.cnt
  | .ife v x y, n, a => by simp [numR, Rw.cnt, len_numRs x, len_numRs y]
  | .whl v x, n, a => by simp [numR, Rw.cnt, len_numRs x]
  | .tr x b y, n, a => by simp [numR, Rw.cnt, len_numRs x, len_numRs y]
  | .set .., n, a => rfl
  | .push .., n, a => rfl
  | .pop .., n, a => rfl
  | .put .., n, a => rfl
  | .ask .., n, a => rfl
  | .tell .., n, a => rfl
  | .fail .., n, a => rfl
  | .call .., n, a => rfl
  | .ret .., n, a => rfl
theorem len_numRs : ∀ (l : List Rw) (n : Nat) (a : Int), (numRs n a l).length = Rw.cnts l
  | [], _, _ => by simp [numRs, Rw.cnts]
  | r :: l, n, a => by rw [numRs, List.length_append, len_numR r, len_numRs l, Rw.cnts]
end
theorem Rw.ins_dpts {r : Rw} {s : List Rw} (h : s ∈ r.ins) : Rw.dpts s + 1 ≤ r.dpt := by
  cases r <;> simp only [Rw.ins, List.mem_cons, List.not_mem_nil, or_false] at h
  · rcases h with rfl | rfl
    all_goals simp only [Rw.dpt]; omega
  · subst h; simp only [Rw.dpt]; omega
  · rcases h with rfl | rfl
    all_goals simp only [Rw.dpt]; omega
abbrev Fn := Str × List Str × List Str × List Rw
def fnTr : Nat → List Fn → List Tr
  | _, [] => []
  | n, f :: fs => ((n : Int), .inl f.1, -1) :: (numRs (n + 1) n f.2.2.2 ++ fnTr (n + 1 + Rw.cnts f.2.2.2) fs)
def trs (p : Pg) : List Tr := fnTr 0 p.fs ++ numRs (fcnt p.fs) (-1) p.rows
theorem fcnt_cons (f : Fn) (fs : List Fn) : fcnt (f :: fs) = Rw.cnts f.2.2.2 + 1 + fcnt fs := by simp [fcnt]
theorem fnTr_app : ∀ (n : Nat) (a b : List Fn), fnTr n (a ++ b) = fnTr n a ++ fnTr (n + fcnt a) b
  | n, [], b => by simp [fnTr, fcnt]
  | n, f :: a, b => by
    rw [List.cons_append, fnTr, fnTr, fnTr_app (n + 1 + Rw.cnts f.2.2.2) a b, fcnt_cons, List.cons_append, List.append_assoc]
    congr 4; omega
theorem len_fnTr : ∀ (n : Nat) (a : List Fn), (fnTr n a).length = fcnt a
  | n, [] => by simp [fnTr, fcnt]
  | n, f :: a => by
    rw [fnTr, List.length_cons, List.length_append, len_numRs, len_fnTr (n + 1 + Rw.cnts f.2.2.2) a, fcnt_cons]; omega
theorem len_trs (p : Pg) : (trs p).length = fcnt p.fs + Rw.cnts p.rows := by rw [trs, List.length_append, len_fnTr, len_numRs]
def askE : Tr → Option Str
  | (_, .inr (.ask _ d), _) => some d
  | _ => none
theorem En.view (e : En) : (∃ x d, e = .inr (.ask x d)) ∨ ((∀ n a, askE (n, e, a) = none) ∧ ∃ (w : String) (ds : List D), dE e = .tup (.str w :: ds) ∧ w ≠ "ask") := by
  rcases e with n | r
  · exact .inr ⟨fun _ _ => rfl, "def", _, rfl, by decide⟩
  · cases r with
    | ask x d => exact .inl ⟨x, d, rfl⟩
    | set x v => exact .inr ⟨fun _ _ => rfl, "set", _, rfl, by decide⟩
    | push x v => exact .inr ⟨fun _ _ => rfl, "push", _, rfl, by decide⟩
    | pop x v => exact .inr ⟨fun _ _ => rfl, "pop", _, rfl, by decide⟩
    | put x v u => exact .inr ⟨fun _ _ => rfl, "put", _, rfl, by decide⟩
    | tell v => exact .inr ⟨fun _ _ => rfl, "tell", _, rfl, by decide⟩
    | fail v => exact .inr ⟨fun _ _ => rfl, "fail", _, rfl, by decide⟩
    | call x f vs => exact .inr ⟨fun _ _ => rfl, "call", _, rfl, by decide⟩
    | ret v => exact .inr ⟨fun _ _ => rfl, "return", _, rfl, by decide⟩
    | ife v a b => exact .inr ⟨fun _ _ => rfl, "if", _, by rw [dE, Rw.d], by decide⟩
    | whl v a => exact .inr ⟨fun _ _ => rfl, "while", _, by rw [dE, Rw.d], by decide⟩
    | tr a x b => exact .inr ⟨fun _ _ => rfl, "try", _, by rw [dE, Rw.d], by decide⟩
def doorsL (p : Pg) : List Str := (trs p).filterMap askE
def sp_within : Sp := fun vs H Q _ => ∃ v r, vs = [v] ∧ Rp H v (Rw.d r) ∧ ∀ (p : Addr) (xs : List V) H', H p = none → Chg [] H H' → H' p = some (.lst xs) → RpA H' xs (r.ins.map fun s => .tup (Rw.ds s)) → Q (.ref p) H'
def sp_put (n : Nat) : Sp := fun vs H Q _ => ∃ v ar fo rs xs ds, vs = [v, .int ar, .ref fo] ∧ Rp H v (.tup (Rw.ds rs)) ∧ Rw.dpts rs < n ∧ H fo = some (.lst xs) ∧ RpA H xs ds ∧ ds.length + Rw.cnts rs ≤ 1000 ∧
  ∀ (ys : List V) H', Chg [fo] H H' → H' fo = some (.lst ys) → RpA H' ys (ds ++ (numRs ds.length ar rs).map tD) → Q .non H'
structure PgN (p : Pg) : Prop where
  d1 : ∀ f ∈ p.fs, Rw.dpts f.2.2.2 ≤ 5
  d2 : Rw.dpts p.rows ≤ 5
  cn : fcnt p.fs + Rw.cnts p.rows ≤ 62
def sp_rowsof : Sp := fun vs H Q _ => ∃ v p, vs = [v] ∧ Rp H v p.d ∧ PgN p ∧ ∀ (fo : Addr) (xs : List V) H', H fo = none → Chg [] H H' → H' fo = some (.lst xs) → RpA H' xs ((trs p).map tD) → Q (.ref fo) H'
def sp_doorsof : Sp := fun vs H Q _ => ∃ v p, vs = [v] ∧ Rp H v p.d ∧ PgN p ∧ ∀ (zs : List Str) (q : Addr) H', sortedS zs = true → zs.Nodup → (∀ k, k ∈ zs ↔ k ∈ doorsL p) → (∀ k ∈ zs, PyData.strOk k = true) → zs.length ≤ 62 → H q = none → Chg [] H H' → H' q = some (.lst (zs.map V.str)) → Q (.ref q) H'
theorem Rw.hd (r : Rw) : ∃ (w : String) (ds : List D), Rw.d r = .tup (.str w :: ds) ∧ ((w = "if" ∧ ∃ v x y, r = .ife v x y) ∨ (w = "while" ∧ ∃ v x, r = .whl v x) ∨ (w = "try" ∧ ∃ x b y, r = .tr x b y) ∨ (w ≠ "if" ∧ w ≠ "while" ∧ w ≠ "try" ∧ r.ins = [])) := by
  cases r with
  | set x v => exact ⟨"set", _, rfl, by simp [Rw.ins]⟩
  | push x v => exact ⟨"push", _, rfl, by simp [Rw.ins]⟩
  | pop x v => exact ⟨"pop", _, rfl, by simp [Rw.ins]⟩
  | put x v u => exact ⟨"put", _, rfl, by simp [Rw.ins]⟩
  | ask x v => exact ⟨"ask", _, rfl, by simp [Rw.ins]⟩
  | tell v => exact ⟨"tell", _, rfl, by simp [Rw.ins]⟩
  | fail v => exact ⟨"fail", _, rfl, by simp [Rw.ins]⟩
  | call x f vs => exact ⟨"call", _, rfl, by simp [Rw.ins]⟩
  | ret v => exact ⟨"return", _, rfl, by simp [Rw.ins]⟩
  | ife v a b => exact ⟨"if", _, by rw [Rw.d], .inl ⟨rfl, _, _, _, rfl⟩⟩
  | whl v a => exact ⟨"while", _, by rw [Rw.d], .inr (.inl ⟨rfl, _, _, rfl⟩)⟩
  | tr a x b => exact ⟨"try", _, by rw [Rw.d], .inr (.inr (.inl ⟨rfl, _, _, _, rfl⟩))⟩
theorem RpA.strH {H : Hp} {w : Str} {ds : List D} {xs : List V} (h : RpA H xs (.str w :: ds)) : ∃ ys, xs = .str w :: ys ∧ RpA H ys ds ∧ PyData.strOk w = true := by
  cases h with | cons r t => cases r with | str hz => exact ⟨_, rfl, t, hz⟩
theorem RpA.intH {H : Hp} {w : Int} {ds : List D} {xs : List V} (h : RpA H xs (.int w :: ds)) : ∃ ys, xs = .int w :: ys ∧ RpA H ys ds := by
  cases h with | cons r t => cases r; exact ⟨_, rfl, t⟩
theorem RpA.consH {H : Hp} {d : D} {ds : List D} {xs : List V} (h : RpA H xs (d :: ds)) : ∃ x ys, xs = x :: ys ∧ Rp H x d ∧ RpA H ys ds := by
  cases h with | cons r t => exact ⟨_, _, rfl, r, t⟩
theorem atI_0 {α : Type} (x : α) (xs : List α) : atI (x :: xs) 0 = some x := atI_nat (j := 0) (by simp)
theorem RpA.nilH {H : Hp} {xs : List V} (h : RpA H xs []) : xs = [] := by cases h; rfl
/-! a comprehension whose law speaks of its list -/
section
variable {g : TG} {tb : TS} {n : L2.St → Hp → Prop} {r : VK} {b c : L2.St → Hp → Prop} {σ : L2.St} {H : Hp} {K : PySem.W.Frag} {te : TE} {ta : TA} {Q : VK}
theorem v_lc_listD {a : Addr} {xs : List V} {tt : TT} {vs : List Nat} (S : List Addr) (Pv : Addr → Nat → List V → Hp → Prop) (hS : ∀ b ∈ S, H b ≠ none) (hl : ∀ H', Chg S H H' → SqL K H' a xs)
    (h0 : ∀ D H', H D = none → Chg [] H H' → H' D = some (.lst []) → Pv D 0 [] H')
    (hs : ∀ D i x acc H1, xs[i]? = some x → H D = none → D ∉ S → Chg S H H1 → H1 D = some (.lst acc) → Pv D i acc H1 → g x (wipe σ vs) H1 fun σ2 H2 => wipe σ2 vs = wipe σ vs ∧ tt σ2 H2 fun k H3 =>
      if k = true then te σ2 H3 fun y H4 => LcA D (LcI S H D (Pv D) (i + 1)) y H4 else LcI S H D (Pv D) (i + 1) H3)
    (hd : ∀ D acc H', Chg S H H' → H D = none → H' D = some (.lst acc) → Pv D xs.length acc H' → Q (.ref D) H') : LcQ (Itl K a) g tt te vs σ H Q := by
  intro D hD
  have dS : D ∉ S := fun m => hS D m hD
  refine lc_list (xs := xs) (LcI S H D (Pv D)) ⟨[], (Chg.new hD).of0, upd_same, h0 D _ hD (.new hD) upd_same⟩ (fun i H1 _ ⟨_, c, _⟩ => hl _ c) (fun i x H1 hx ⟨acc, c, e, p⟩ => hs D i x acc H1 hx hD dS c e p) (fun H1 ⟨acc, c, e, p⟩ => hd D acc H1 c hD e p)
theorem v_lc_tupD {a : Addr} {xs : List V} {tt : TT} {vs : List Nat} (S : List Addr) (Pv : Addr → Nat → List V → Hp → Prop) (hS : ∀ b ∈ S, H b ≠ none) (hl : ∀ H', Chg S H H' → SqT K H' a xs)
    (h0 : ∀ D H', H D = none → Chg [] H H' → H' D = some (.lst []) → Pv D 0 [] H')
    (hs : ∀ D i x acc H1, xs[i]? = some x → H D = none → D ∉ S → Chg S H H1 → H1 D = some (.lst acc) → Pv D i acc H1 → g x (wipe σ vs) H1 fun σ2 H2 => wipe σ2 vs = wipe σ vs ∧ tt σ2 H2 fun k H3 =>
      if k = true then te σ2 H3 fun y H4 => LcA D (LcI S H D (Pv D) (i + 1)) y H4 else LcI S H D (Pv D) (i + 1) H3)
    (hd : ∀ D acc H', Chg S H H' → H D = none → H' D = some (.lst acc) → Pv D xs.length acc H' → Q (.ref D) H') : LcQ (Itt K a) g tt te vs σ H Q := by
  intro D hD
  have dS : D ∉ S := fun m => hS D m hD
  refine lc_tup (xs := xs) (LcI S H D (Pv D)) ⟨[], (Chg.new hD).of0, upd_same, h0 D _ hD (.new hD) upd_same⟩ (fun i H1 _ ⟨_, c, _⟩ => hl _ c) (fun i x H1 hx ⟨acc, c, e, p⟩ => hs D i x acc H1 hx hD dS c e p) (fun H1 ⟨acc, c, e, p⟩ => hd D acc H1 c hD e p)
end
theorem pg_tupU {X : Cx} {K : PySem.W.Frag} {es : List Expr} {k : Nat} {pos : Pos} {t : TGs} {n : Nat} (hc : X.calm = true) (h : PGs X es t) (hK : X.K = K := by rfl)
    (hn : (assignEach es X.env).length = n := by rfl) (hst : (assignEach es X.env).findIdx? (·.1) = none := by rfl) : PG X (.Tuple es k pos) (gTup K n t) := by
  subst hK
  exact pg_tup hc h hn hst
theorem map_get {α β : Type} {f : α → β} {l : List α} {i : Nat} {y : β} (h : (l.map f)[i]? = some y) : ∃ x, l[i]? = some x ∧ y = f x := by
  rw [List.getElem?_map] at h
  cases e : l[i]? with
  | none => rw [e] at h; cases h
  | some z => rw [e] at h; cases h; exact ⟨z, rfl, rfl⟩
theorem take_snoc {α : Type} {l : List α} {i : Nat} {x : α} (h : l[i]? = some x) : l.take (i + 1) = l.take i ++ [x] := by rw [List.take_add_one, h]; rfl
theorem Pg.parts {H : Hp} {v : V} {p : Pg} (h : Rp H v p.d) : ∃ (a : Addr) (v1 v2 v3 v4 : V), v = .ref a ∧ H a = some (.tup [v1, v2, v3, v4]) ∧ Rp H v1 (.tup (p.bx.map bxD)) ∧ Rp H v2 (.tup (p.ls.map lsD)) ∧ Rp H v3 (.tup (p.fs.map fnD)) ∧ Rp H v4 (.tup (Rw.ds p.rows)) := by
  obtain ⟨a, xs, rfl, ha, hx⟩ := h.tupI
  obtain ⟨v1, x1, rfl, r1, h1⟩ := hx.consH
  obtain ⟨v2, x2, rfl, r2, h2⟩ := h1.consH
  obtain ⟨v3, x3, rfl, r3, h3⟩ := h2.consH
  obtain ⟨v4, x4, rfl, r4, h4⟩ := h3.consH
  cases h4.nilH
  exact ⟨a, v1, v2, v3, v4, rfl, ha, r1, r2, r3, r4⟩
theorem fn_parts {H : Hp} {v : V} {f : Fn} (h : Rp H v (fnD f)) : ∃ (a : Addr) (v2 v3 v4 : V), v = .ref a ∧ H a = some (.tup [.str f.1, v2, v3, v4]) ∧ PyData.strOk f.1 = true ∧ Rp H v2 (.tup (f.2.1.map D.str)) ∧ Rp H v3 (.tup (f.2.2.1.map D.str)) ∧ Rp H v4 (.tup (Rw.ds f.2.2.2)) := by
  obtain ⟨a, xs, rfl, ha, hx⟩ := h.tupI
  obtain ⟨x1, rfl, h1, ok⟩ := hx.strH
  obtain ⟨v2, x2, rfl, r2, h2⟩ := h1.consH
  obtain ⟨v3, x3, rfl, r3, h3⟩ := h2.consH
  obtain ⟨v4, x4, rfl, r4, h4⟩ := h3.consH
  cases h4.nilH
  exact ⟨a, v2, v3, v4, rfl, ha, ok, r2, r3, r4⟩
theorem tr_parts {H : Hp} {v : V} {t : Tr} (h : Rp H v (tD t)) : ∃ (a : Addr) (u : V), v = .ref a ∧ H a = some (.tup [.int t.1, u, .int t.2.2]) ∧ Rp H u (dE t.2.1) := by
  obtain ⟨a, xs, rfl, ha, hx⟩ := h.tupI
  obtain ⟨x1, rfl, h1⟩ := hx.intH
  obtain ⟨u, x2, rfl, r2, h2⟩ := h1.consH
  obtain ⟨x3, rfl, h3⟩ := h2.intH
  cases h3.nilH
  exact ⟨a, u, rfl, ha, r2⟩
theorem ask_parts {H : Hp} {v : V} {x d : Str} (h : Rp H v (Rw.d (.ask x d))) : ∃ a, v = .ref a ∧ H a = some (.tup [.str "ask", .str x, .str d]) ∧ PyData.strOk d = true := by
  obtain ⟨a, xs, rfl, ha, hx⟩ := h.tupI
  obtain ⟨x1, rfl, h1, _⟩ := hx.strH
  obtain ⟨x2, rfl, h2, _⟩ := h1.strH
  obtain ⟨x3, rfl, h3, ok⟩ := h2.strH
  cases h3.nilH
  exact ⟨a, rfl, ha, ok⟩
/-! a line of rows, each with those within it -/
abbrev Le := En × Int × List Rw
def due : Nat → List Le → List Tr
  | _, [] => []
  | n, e :: W => ((n : Int), e.1, e.2.1) :: (numRs (n + 1) n e.2.2 ++ due (n + 1 + Rw.cnts e.2.2) W)
def leR (a : Int) (r : Rw) : Le := (.inr r, a, r.inl)
theorem due_push : ∀ (m : Nat) (a : Int) (l : List Rw) (W : List Le), due m (l.map (leR a) ++ W) = numRs m a l ++ due (m + Rw.cnts l) W
  | m, a, [], W => by simp [numRs, Rw.cnts]
  | m, a, r :: l, W => by
    rw [List.map_cons, List.cons_append, due, numRs_cons, numR_eq]
    show ((m : Int), .inr r, a) :: (numRs (m + 1) m r.inl ++ due (m + 1 + Rw.cnts r.inl) _) = _
    rw [due_push _ a l W, Rw.cnts, r.cnt_inl, List.append_assoc, List.cons_append]
    congr 3
    · congr 1; omega
    · congr 1; omega
def leF (f : Fn) : Le := (.inl f.1, -1, f.2.2.2)
theorem due_fns : ∀ (m : Nat) (fs : List Fn) (W : List Le), due m (fs.map leF ++ W) = fnTr m fs ++ due (m + fcnt fs) W
  | m, [], W => by simp [fnTr, fcnt]
  | m, f :: fs, W => by
    rw [List.map_cons, List.cons_append, due, fnTr, fcnt_cons]
    show ((m : Int), .inl f.1, -1) :: (numRs (m + 1) m f.2.2.2 ++ due (m + 1 + Rw.cnts f.2.2.2) _) = _
    rw [due_fns _ fs W, List.cons_append, List.append_assoc]
    congr 4; omega
def lineP (p : Pg) : List Le := p.fs.map leF ++ p.rows.map (leR (-1))
theorem due_all (p : Pg) : due 0 (lineP p) = trs p := by
  unfold lineP trs
  have h := due_push (0 + fcnt p.fs) (-1) p.rows []
  rw [List.append_nil] at h
  rw [due_fns, h, due, List.append_nil, Nat.zero_add]
def wcnt (W : List Le) : Nat := (W.map fun e => Rw.cnts e.2.2 + 1).sum
theorem wcnt_app (a b : List Le) : wcnt (a ++ b) = wcnt a + wcnt b := by simp [wcnt]
theorem wcnt_cons (e : Le) (W : List Le) : wcnt (e :: W) = Rw.cnts e.2.2 + 1 + wcnt W := by simp [wcnt]
theorem wcnt_leR (a : Int) : ∀ l : List Rw, wcnt (l.map (leR a)) = Rw.cnts l
  | [] => rfl
  | r :: l => by rw [List.map_cons, wcnt_cons, wcnt_leR a l, Rw.cnts, r.cnt_inl]; rfl
theorem len_due : ∀ (n : Nat) (W : List Le), (due n W).length = wcnt W
  | _, [] => rfl
  | n, e :: W => by rw [due, List.length_cons, List.length_append, len_numRs, len_due _ W, wcnt_cons]; omega
inductive LnAt (H : Hp) (S : List Addr) : List V → List Le → Prop
  | nil : LnAt H S [] []
  | cons {t l : Addr} {v : V} {ys xs : List V} {e : Le} {W : List Le} : H t = some (.tup [v, .int e.2.1, .ref l]) → Rp H v (dE e.1) → H l = some (.lst ys) → l ∉ S → RpA H ys (Rw.ds e.2.2) → LnAt H S xs W → LnAt H S (.ref t :: xs) (e :: W)
theorem LnAt.on {S S' : List Addr} {H H' : Hp} {xs : List V} {W : List Le} (h : LnAt H S xs W) (c : Chg S' H H') (hS : ∀ s ∈ S', s ∈ S ∨ H s = none) : LnAt H' S xs W := by
  induction h with
  | nil => exact .nil
  | cons e1 r1 e2 n1 r2 _ ih => exact .cons (c.tup e1) (r1.on c) (c.keep e2 fun m => (hS _ m).elim n1 fun z => by rw [z] at e2; cases e2) n1 (r2.on c) ih
theorem LnAt.re {S S' : List Addr} {H : Hp} {xs : List V} {W : List Le} (h : LnAt H S xs W) (hS : ∀ s ∈ S', s ∈ S ∨ H s = none) : LnAt H S' xs W := by
  induction h with
  | nil => exact .nil
  | cons e1 r1 e2 n1 r2 _ ih => exact .cons e1 r1 e2 (fun m => (hS _ m).elim n1 fun z => by rw [z] at e2; cases e2) r2 ih
theorem LnAt.app {S : List Addr} {H : Hp} {xs ys : List V} {W U : List Le} (h : LnAt H S xs W) (h' : LnAt H S ys U) : LnAt H S (xs ++ ys) (W ++ U) := by
  induction h with
  | nil => exact h'
  | cons e1 r1 e2 n1 r2 _ ih => exact .cons e1 r1 e2 n1 r2 ih
theorem LnAt.length {S : List Addr} {H : Hp} {xs : List V} {W : List Le} (h : LnAt H S xs W) : xs.length = W.length := by
  induction h with
  | nil => rfl
  | cons _ _ _ _ _ _ ih => rw [List.length_cons, List.length_cons, ih]
/-- as data -/
def leD (e : Le) : PyData := .tuple [(dE e.1).py, .int e.2.1, .list (D.pys (Rw.ds e.2.2))]
theorem LnAt.dp {K : PySem.W.Frag} {S : List Addr} {H : Hp} {xs : List V} {W : List Le} (h : LnAt H S xs W) : L2.DpAll K H xs (W.map leD) := by
  induction h with
  | nil => exact .nil
  | cons e1 r1 e2 n1 r2 _ ih => exact .cons (.tup (SqT.of e1) (.cons (Rp.dp _ _ r1) (.cons (.int _) (.cons (.lst (SqL.of e2) (RpA.dp _ _ r2)) .nil)))) ih
theorem LnAt.lay {S : List Addr} {H : Hp} {xs : List V} {W : List Le} (h : LnAt H S xs W) : PyData.canLayAll0 (W.map leD) = true := by
  induction h with
  | nil => rfl
  | cons e1 r1 e2 n1 r2 _ ih =>
    rw [List.map_cons, PyData.canLayAll0, ih]
    simp only [leD, PyData.canLay0, PyData.canLayAll0, Rp.lay _ _ r1, RpA.lay _ _ r2, Bool.and_true]
theorem le_depth {n : Nat} : ∀ W : List Le, (∀ e ∈ W, (dE e.1).dep ≤ n ∧ D.deps (Rw.ds e.2.2) ≤ n) → PyData.depthAll (W.map leD) ≤ n + 2
  | [], _ => Nat.zero_le _
  | e :: W, h => by
    have ih := le_depth W fun x hx => h x (List.mem_cons_of_mem _ hx)
    obtain ⟨h1, h2⟩ := h e List.mem_cons_self
    rw [List.map_cons, PyData.depthAll]
    have : PyData.depth (leD e) ≤ n + 2 := by
      simp only [leD, PyData.depth, PyData.depthAll, D.depth_py, D.depth_pys]
      omega
    omega
end RT

/-! ## 20. list += list -/
namespace RT
open PySem PySem.Spec PyProof.Rows L2
theorem seqI_list : seqSlot? (.type "list") (dunderI "add") = pure (some (.builtin "list.__iadd__")) := PySem.seqSlot_of PySem.F.slot_list_iadd.lookup (by decide +kernel)
theorem noFillI_list : fillsInplaceSlot (.type "list") "add" (Operator.Add == .Add) = pure false := by
  unfold fillsInplaceSlot
  show (typeLookup (.type "list") (dunderI "add") >>= fun fi => pure (fi.isSome && !isSeqSlot fi)) = pure false
  rw [PySem.F.slot_list_iadd.lookup]
  rfl
theorem rt_iadd_list {M : Model} {A : Around} {E : Value → Shared → Prop} {s : Shared} {a b : Value} {Q : Value → Shared → Prop} (ha : s.TypeIs a "list") (hb : s.TypeIs b "list")
    (hc : wpAny M A (call (.builtin "list.__iadd__") [a, b]) Q E s) : wpAny M A (inplaceOp .Add a b) Q E s := by
  unfold inplaceOp
  refine wpAny_holding ?_
  refine wpAny_bind (wpAny_typeOf ha (wpAny_bind (wpAny_of_eq noFillI_list ?_)))
  show wpAny M A (if false = true then _ else _) Q E s
  rw [if_neg Bool.false_ne_true]
  refine wpAny_bind (wpAny_binaryOp1_none (nm := "add") ha hb PySem.noFill_list_add ?_)
  refine wpAny_bind (wpAny_of_eq seqI_list ?_)
  exact wpAny_bind (wpAny_rule hc)
/-- l += b -/
def ipL : TIp := fun x y H Q => ∃ l b xs zs, x = .ref l ∧ y = .ref b ∧ H l = some (.lst xs) ∧ H b = some (.lst zs) ∧ xs.length + zs.length ≤ sizeLine ∧ Q (.ref l) (upd H l (.lst (xs ++ zs)))
theorem ip_cat {X : Cx} : PIp X .Add ipL := by
  intro pins s σ H x y v u Q I rx ry h
  obtain ⟨l, b, xs, zs, rfl, rfl, hH, hB, hz, q⟩ := h
  cases rx
  cases ry
  obtain ⟨z, its, n, r, hl, e⟩ := I.lstM hH
  obtain ⟨z2, its2, n2, r2, hl2, e2⟩ := I.lstM hB
  have hsz : its.toArray.size + its2.toArray.size ≤ sizeLine := by rw [List.size_toArray, List.size_toArray]; omega
  have hlong : ¬ (!its.toArray.isEmpty && Builtin.List.listTooLong (its.toArray.size + its2.toArray.size)) = true := by
    rw [notLongL hsz, Bool.and_false]
    exact Bool.false_ne_true
  refine rt_iadd_list ⟨_, e, rfl⟩ ⟨_, e2, rfl⟩ (call_meets PySem.F.slot_list_iadd ⟨_, e, rfl⟩ PySem.F.entry_list_iadd (PySem.F.args_list_iadd_2 _ _)
    (AutoSeq1.list___iadd___list_list_0 l its.toArray n b its2.toArray n2 hlong (by rw [List.size_toArray]; omega) (by omega)) ⟨e, e2, ?_⟩)
  refine ⟨.ref l, _, I.lset (its' := its ++ its2) hH e (by simp) (r.append r2) ?_, rfl, q⟩
  rw [List.length_append]
  omega
/-! ## 21. texts: str, join, or -/
theorem pe_bmU {X : Cx} {K : PySem.W.Frag} {T id : String} {name : Str} {r : V → List V → Hp → VK → Prop} {o e : Expr} {es : List Expr} {to : TE} {t : TA} {apos cpos : Pos}
    (pa : PlainAttrs T) (slot : Slot T name id) (hty : typeOf (.builtin id) = pure (.type "method_descriptor")) (hm : MtR X id r) (ho : PE X o to) (ha : PA X (e :: es) t) (hK : X.K = K := by rfl)
    (hbase : attributeBase o name X.env (eval o X.env) = eval o X.env := by rfl)
    (hfew : ((backTo cpos (starEach (e :: es) X.env)).all (fun x => !x.1) && (backToKw cpos (keywordEach [] X.env)).all (fun x => x.1.isSome)
      && decide ((e :: es).length + ([] : List Keyword).length + (if ([] : List Keyword).isEmpty then 0 else 1) < 30)) = true := by rfl)
    (hline : (apos.endLine == cpos.line) = true := by rfl) (hs : starEach (e :: es) X.env = (false, eval e X.env) :: starEach es X.env := by rfl) (hplain : (backTo cpos (starEach es X.env)).any (·.1) = false := by rfl) :
    PE X (.Call (.Attribute o name apos) (e :: es) [] cpos) (tBM K T r to t) := by
  subst hK
  exact pe_bm pa slot hty hm ho ha hbase hfew hline hs hplain
def uStrX : List V → Hp → VK → Prop := fun xs H Q => (∃ i, xs = [.int i] ∧ i.natAbs.log2 < 1920 ∧ Q (.str (toString i)) H) ∨ ∃ a, xs = [.str a] ∧ Q (.str a) H
theorem call_ustrX {X : Cx} : CallR X (.type "str") uStrX := CallR.or call_str_int SkE.call_str_str
def rJoin (K : PySem.W.Frag) : V → List V → Hp → VK → Prop := fun x xs H Q => ∃ a p, ∃ ys : List Str, x = .str a ∧ xs = [.ref p] ∧ (SqL K H p (ys.map V.str) ∨ SqT K H p (ys.map V.str)) ∧
    (ys.map (·.length)).sum + ys.length * a.length ≤ 16777216 ∧ Q (.str (Str.join a ys)) H
theorem mt_ujoin {X : Cx} {K : PySem.W.Frag} (hK : X.K = K := by rfl) : MtR X "str.join" (rJoin K) := by
  subst hK
  intro pins s σ H x xs v us Q I rx rs h
  obtain ⟨a, p, ys, e1, e2, h1, h2, q⟩ := h
  exact mt_join pins s σ H x xs v us Q I rx rs ⟨a, p, ys, e1, e2, h1, h2, by show Q (.str (Builtin.Str.glued a ys)) H; rw [PySem.StrLaws.glued_eq_join]; exact q⟩
theorem pe_orTU {X : Cx} {K : PySem.W.Frag} {a b : Expr} {ta tb : TE} {rest : List Expr} {pos : Pos} (ha : PE X a ta) (hb : PE X (.BoolOp .Or (b :: rest) pos) tb) (hK : X.K = K := by rfl) : PE X (.BoolOp .Or (a :: b :: rest) pos) (tOrT K ta tb) := by
  subst hK
  exact pe_orT ha hb
section
variable {te tf : TE} {σ : L2.St} {H : Hp} {K : PySem.W.Frag} {Q : VK} {td ty tx : TE}
theorem v_orT (h : te σ H fun x H1 => Tru K x H1 fun k => if k = true then Q x H1 else tf σ H1 Q) : tOrT K te tf σ H Q := h
theorem v_tru_s {P : Bool → Prop} {z : Str} (hz : z.length ≤ sizeLine) (h : P ((z.length : Int) != 0)) : Tru K (.str z) H P := ⟨_, ⟨hz, rfl⟩, h⟩
def IsDA (x : V) (H : Hp) (P : Addr → Prop) : Prop := ∃ a, x = .ref a ∧ IsD H a ∧ P a
def DGot (a : Addr) (y : V) (H : Hp) (P : Option V → Prop) : Prop := ∃ o, DGet H a y o ∧ P o
theorem v_dget2 (h : td σ H fun x H1 => IsDA x H1 fun a => ty σ H1 fun y H2 => tx σ H2 fun z H3 => DGot a y H3 fun o => Q (o.getD z) H3) : tDGet2 td ty tx σ H Q := h
theorem v_isda {a : Addr} {kvs : List (Key × V)} {P : Addr → Prop} (e : H a = some (.dK kvs)) (h : P a) : IsDA (.ref a) H P := ⟨a, rfl, .inl ⟨kvs, .inl e⟩, h⟩
theorem v_dgot {a : Addr} {y : V} {o : Option V} {P : Option V → Prop} (g : DGet H a y o) (h : P o) : DGot a y H P := ⟨o, g, h⟩
theorem v_str_i {i : Int} (hi : i.natAbs.log2 < 1920) (q : Q (.str (toString i)) H) : uStrX [.int i] H Q := .inl ⟨i, rfl, hi, q⟩
theorem v_str_s {z : Str} (q : Q (.str z) H) : uStrX [.str z] H Q := .inr ⟨z, rfl, q⟩
theorem v_join_l {a : Str} {p : Addr} {ys : List Str} (h : SqL K H p (ys.map V.str)) (hl : (ys.map (·.length)).sum + ys.length * a.length ≤ 16777216) (q : Q (.str (Str.join a ys)) H) : rJoin K (.str a) [.ref p] H Q := ⟨a, p, ys, rfl, rfl, .inl h, hl, q⟩
theorem v_ipL {a b : Addr} {xs zs : List V} (h1 : H a = some (.lst xs)) (h2 : H b = some (.lst zs)) (hl : xs.length + zs.length ≤ sizeLine) (q : ∀ H', Chg [a] H H' → H' a = some (.lst (xs ++ zs)) → Q (.ref a) H') : ipL (.ref a) (.ref b) H Q :=
  ⟨a, b, xs, zs, rfl, rfl, h1, h2, hl, q _ (Chg.set h1 (by intro _ e; cases e)) upd_same⟩
end
/-! ## 22. programs as texts -/
def iS (i : Int) : Str := toString i
theorem iS_len {i : Int} (h0 : 0 ≤ i) (h1 : i < 1000000) : (iS i).length ≤ 7 := by
  unfold iS
  have := int_text_length_le10 (a := i) (k := 6) (by decide) (by omega)
  show (Str.ofString (toString i)).length ≤ 7
  rw [PySem.ofString_length]; omega
theorem log2_small {i : Int} (h0 : 0 ≤ i) (h1 : i < 1000000) : i.natAbs.log2 < 1920 := by
  by_cases hz : i.natAbs = 0
  · rw [hz]; decide
  · refine (Nat.log2_lt hz).mpr (Nat.lt_of_lt_of_le (show i.natAbs < 2 ^ 20 by omega) (Nat.pow_le_pow_right (by decide) (by decide)))
def sp1 : Str := Str.ofString " "
def Vl.words : Vl → List Str
  | .num i => [Str.ofString "number", iS i]
  | .box z => [Str.ofString "box", z]
  | .size z => [Str.ofString "size", z]
  | .neg v => Str.ofString "not" :: v.words
  | .item z v => Str.ofString "item" :: z :: v.words
  | .bin w a b => w :: (a.words ++ b.words)
def Vl.txt (v : Vl) : Str := Str.join sp1 v.words
theorem Vl.words_ne : ∀ v : Vl, v.words ≠ [] := by intro v; cases v <;> simp [Vl.words]
theorem str_assoc (a b c : Str) : a ++ b ++ c = a ++ (b ++ c) := by
  have : ∀ x y : Str, x.cps.toList = y.cps.toList → x = y := fun x y h => by cases x; cases y; simp only [Str.mk.injEq]; exact Array.toList_inj.mp h
  apply this
  show ((a.cps ++ b.cps) ++ c.cps).toList = (a.cps ++ (b.cps ++ c.cps)).toList
  simp
theorem join_cons (s x : Str) {l : List Str} (h : l ≠ []) : Str.join s (x :: l) = x ++ s ++ Str.join s l := by
  cases l with
  | nil => exact absurd rfl h
  | cons y l => rfl
theorem join_app (s : Str) : ∀ (a b : List Str), a ≠ [] → b ≠ [] → Str.join s (a ++ b) = Str.join s a ++ s ++ Str.join s b
  | [], _, h, _ => absurd rfl h
  | [x], b, _, hb => by rw [List.singleton_append, join_cons s x hb]; rfl
  | x :: y :: a, b, _, hb => by
    rw [List.cons_append, join_cons s x (by simp), join_app s (y :: a) b (by simp) hb, join_cons s x (by simp)]
    simp only [str_assoc]
theorem join_one (s x : Str) : Str.join s [x] = x := rfl
theorem join_two (s x y : Str) : Str.join s [x, y] = x ++ s ++ y := rfl
theorem join_three (s x y z : Str) : Str.join s [x, y, z] = x ++ s ++ (y ++ s ++ z) := rfl
theorem join_in (s : Str) (x : Str) (l : List Str) (h : l ≠ []) : Str.join s [x, Str.join s l] = Str.join s (x :: l) := by rw [join_two, join_cons s x h]
/-- lengths, with a blank each -/
def wl (l : List Str) : Nat := (l.map fun z => z.length + 1).sum
theorem wl_app (a b : List Str) : wl (a ++ b) = wl a + wl b := by simp [wl]
theorem wl_cons (a : Str) (b : List Str) : wl (a :: b) = a.length + 1 + wl b := by simp [wl]
theorem wl_sum (l : List Str) : (l.map (·.length)).sum + l.length * 1 = wl l := by
  induction l with
  | nil => rfl
  | cons x l ih => rw [wl_cons]; simp only [List.map_cons, List.sum_cons, List.length_cons]; omega
theorem join_len (l : List Str) : (Str.join sp1 l).length ≤ wl l := by
  have := PySem.StrLaws.join_length_le sp1 l
  have e : sp1.length = 1 := rfl
  rw [e, wl_sum] at this
  exact this
theorem bin_len : ∀ w ∈ binW, w.length ≤ 5 := by decide +kernel
theorem Vl.wl_words {B L : Str → Prop} (hB : ∀ z, B z → isNm z = true) (hL : ∀ z, L z → isNm z = true) : ∀ v : Vl, v.ok B L → wl v.words ≤ 16 * 2 ^ v.dp - 16
  | .num i, h => by
    have := iS_len h.1 h.2
    simp only [Vl.words, wl_cons, Vl.dp]
    show 6 + 1 + ((iS i).length + 1 + 0) ≤ _
    omega
  | .box z, h => by
    have hz : z.length ≤ 6 := by have := hB z h; simp only [isNm, Bool.and_eq_true, decide_eq_true_eq] at this; omega
    simp only [Vl.words, wl_cons, Vl.dp]
    show 3 + 1 + (z.length + 1 + 0) ≤ _
    omega
  | .size z, h => by
    have hz : z.length ≤ 6 := by have := hL z h; simp only [isNm, Bool.and_eq_true, decide_eq_true_eq] at this; omega
    simp only [Vl.words, wl_cons, Vl.dp]
    show 4 + 1 + (z.length + 1 + 0) ≤ _
    omega
  | .neg v, h => by
    have ih := Vl.wl_words hB hL v h
    have hp : 2 ≤ 2 ^ v.dp := by
      have : 1 ≤ v.dp := by cases v <;> simp [Vl.dp]
      calc 2 = 2 ^ 1 := rfl
        _ ≤ 2 ^ v.dp := Nat.pow_le_pow_right (by decide) this
    simp only [Vl.words, wl_cons, Vl.dp, Nat.pow_succ]
    show 3 + 1 + _ ≤ _
    omega
  | .item z v, h => by
    have hz : z.length ≤ 6 := by have := hL z h.1; simp only [isNm, Bool.and_eq_true, decide_eq_true_eq] at this; omega
    have ih := Vl.wl_words hB hL v h.2
    have hp : 2 ≤ 2 ^ v.dp := by
      have : 1 ≤ v.dp := by cases v <;> simp [Vl.dp]
      calc 2 = 2 ^ 1 := rfl
        _ ≤ 2 ^ v.dp := Nat.pow_le_pow_right (by decide) this
    simp only [Vl.words, wl_cons, Vl.dp, Nat.pow_succ]
    show 4 + 1 + _ ≤ _
    omega
  | .bin w a b, h => by
    have hw := bin_len w h.1
    have iha := Vl.wl_words hB hL a h.2.1
    have ihb := Vl.wl_words hB hL b h.2.2
    have pa : 2 ^ a.dp ≤ 2 ^ (max a.dp b.dp) := Nat.pow_le_pow_right (by decide) (by omega)
    have pb : 2 ^ b.dp ≤ 2 ^ (max a.dp b.dp) := Nat.pow_le_pow_right (by decide) (by omega)
    have hp : 2 ≤ 2 ^ a.dp := by
      have : 1 ≤ a.dp := by cases a <;> simp [Vl.dp]
      calc 2 = 2 ^ 1 := rfl
        _ ≤ 2 ^ a.dp := Nat.pow_le_pow_right (by decide) this
    simp only [Vl.words, wl_cons, wl_app, Vl.dp, Nat.pow_succ]
    omega
/-! parts of a value -/
def Vl.head : Vl → Str
  | .num _ => Str.ofString "number"
  | .box _ => Str.ofString "box"
  | .size _ => Str.ofString "size"
  | .neg _ => Str.ofString "not"
  | .item .. => Str.ofString "item"
  | .bin w _ _ => w
def Vl.ar : Vl → Int
  | .num _ => 0
  | .box _ => 0
  | .size _ => 0
  | .neg _ => 1
  | .item .. => 1
  | .bin .. => 2
def Vl.parts : Vl → List (Str ⊕ Vl)
  | .neg v => [.inr v]
  | .item z v => [.inl z, .inr v]
  | .bin _ a b => [.inr a, .inr b]
  | _ => []
def pD : Str ⊕ Vl → D
  | .inl z => .str z
  | .inr v => v.d
def pW : Str ⊕ Vl → List Str
  | .inl z => [z]
  | .inr v => v.words
def pT : Str ⊕ Vl → Str
  | .inl z => z
  | .inr v => v.txt
theorem Vl.d_parts {v : Vl} (h : v.ar ≠ 0) : v.d = .tup (.str v.head :: v.parts.map pD) := by cases v <;> first | rfl | exact absurd rfl h
theorem Vl.w_parts {v : Vl} (h : v.ar ≠ 0) : v.words = v.head :: v.parts.flatMap pW := by cases v <;> first | exact absurd rfl h | simp [Vl.words, Vl.head, Vl.parts, pW]
theorem Vl.t_parts {v : Vl} (h : v.ar ≠ 0) : Str.join sp1 (v.head :: v.parts.map pT) = v.txt := by
  cases v with
  | neg v => exact join_in sp1 _ _ v.words_ne
  | item z v =>
    show Str.join sp1 [_, z, Str.join sp1 v.words] = Str.join sp1 (_ :: z :: v.words)
    rw [join_cons _ _ (by simp), join_in _ _ _ v.words_ne, join_cons sp1 (Str.ofString "item") (l := z :: v.words) (by simp)]
    rfl
  | bin w a b =>
    show Str.join sp1 [w, Str.join sp1 a.words, Str.join sp1 b.words] = Str.join sp1 (w :: (a.words ++ b.words))
    have hne : a.words ++ b.words ≠ [] := by simp [a.words_ne]
    rw [join_cons sp1 w hne, join_app _ _ _ a.words_ne b.words_ne, join_cons _ _ (by simp), join_two]
  | _ => exact absurd rfl h
theorem bin_not : ∀ w ∈ binW, w ∉ ([Str.ofString "number", "box", "size"] : List Str) ∧ w ∉ ([Str.ofString "not", "item"] : List Str) ∧ w ∈ ([Str.ofString "plus", "minus", "times", "over", "rest", "less", "same"] : List Str) := by decide +kernel
theorem leaf_heads : (Str.ofString "number" ∈ ([Str.ofString "number", "box", "size"] : List Str)) ∧ (Str.ofString "box" ∈ ([Str.ofString "number", "box", "size"] : List Str)) ∧ (Str.ofString "size" ∈ ([Str.ofString "number", "box", "size"] : List Str)) ∧
    (Str.ofString "not" ∉ ([Str.ofString "number", "box", "size"] : List Str)) ∧ (Str.ofString "item" ∉ ([Str.ofString "number", "box", "size"] : List Str)) ∧ (Str.ofString "not" ∈ ([Str.ofString "not", "item"] : List Str)) ∧ (Str.ofString "item" ∈ ([Str.ofString "not", "item"] : List Str)) := by decide +kernel
theorem Vl.leaf {B L : Str → Prop} {v : Vl} (h : v.ok B L) : v.head ∈ ([Str.ofString "number", "box", "size"] : List Str) ↔ v.ar = 0 := by
  obtain ⟨h1, h2, h3, h4, h5, h6, h7⟩ := leaf_heads
  cases v with
  | num i => exact ⟨fun _ => rfl, fun _ => h1⟩
  | box i => exact ⟨fun _ => rfl, fun _ => h2⟩
  | size i => exact ⟨fun _ => rfl, fun _ => h3⟩
  | neg v => exact ⟨fun z => absurd z h4, fun z => by cases z⟩
  | item z v => exact ⟨fun z => absurd z h5, fun z => by cases z⟩
  | bin w a b => exact ⟨fun z => absurd z (bin_not w h.1).1, fun z => by cases z⟩
theorem Vl.one {B L : Str → Prop} {v : Vl} (h : v.ok B L) (h0 : v.ar ≠ 0) : v.head ∈ ([Str.ofString "not", "item"] : List Str) ↔ v.ar = 1 := by
  obtain ⟨h1, h2, h3, h4, h5, h6, h7⟩ := leaf_heads
  cases v with
  | num i => exact absurd rfl h0
  | box i => exact absurd rfl h0
  | size i => exact absurd rfl h0
  | neg v => exact ⟨fun _ => rfl, fun _ => h6⟩
  | item z v => exact ⟨fun _ => rfl, fun _ => h7⟩
  | bin w a b => exact ⟨fun z => absurd z (bin_not w h.1).2.1, fun z => by cases z⟩
theorem Vl.two {B L : Str → Prop} {v : Vl} (h : v.ok B L) (h0 : v.ar ≠ 0) (h1 : v.ar ≠ 1) : v.head ∈ ([Str.ofString "plus", "minus", "times", "over", "rest", "less", "same"] : List Str) ∧ v.ar = 2 := by
  cases v with
  | num i => exact absurd rfl h0
  | box i => exact absurd rfl h0
  | size i => exact absurd rfl h0
  | neg v => exact absurd rfl h1
  | item z v => exact absurd rfl h1
  | bin w a b => exact ⟨(bin_not w h.1).2.2, rfl⟩
theorem Vl.part_ok {B L : Str → Prop} {v u : Vl} (h : v.ok B L) (m : .inr u ∈ v.parts) : u.ok B L ∧ u.dp + 1 ≤ v.dp := by
  cases v <;> simp only [Vl.parts, List.mem_cons, List.not_mem_nil, or_false, Sum.inr.injEq, reduceCtorEq, false_or] at m
  · subst m; exact ⟨h, by simp [Vl.dp]⟩
  · subst m; exact ⟨h.2, by simp [Vl.dp]⟩
  · rcases m with rfl | rfl
    · exact ⟨h.2.1, by simp only [Vl.dp]; omega⟩
    · exact ⟨h.2.2, by simp only [Vl.dp]; omega⟩
theorem Vl.part_nm {B L : Str → Prop} {v : Vl} {z : Str} (h : v.ok B L) (m : .inl z ∈ v.parts) : L z := by
  cases v <;> simp only [Vl.parts, List.mem_cons, List.not_mem_nil, or_false, Sum.inl.injEq, reduceCtorEq, false_or] at m
  · subst m; exact h.1
theorem cutV_tail (x : V) (xs : List V) : cutV (x :: xs) (some 1) none = xs := by
  show (List.drop (HT.sIx (x :: xs).length 0 (some 1)) (x :: xs)).take ((x :: xs).length - HT.sIx (x :: xs).length 0 (some 1)) = xs
  have e : HT.sIx (x :: xs).length 0 (some 1) = 1 := by
    rw [show (some (1 : Int)) = some ((1 : Nat) : Int) from rfl, HT.sIx_nat, List.length_cons]; omega
  rw [e, List.drop_succ_cons, List.drop_zero, List.length_cons]
  exact List.take_of_length_le (by omega)
/-! rows as texts -/
inductive Pt where
  | tx (z : Str)
  | vl (v : Vl)
  | vls (vs : List Vl)
def Pt.d : Pt → D
  | .tx z => .str z
  | .vl v => v.d
  | .vls vs => .tup (vs.map Vl.d)
def Pt.w : Pt → List Str
  | .tx z => [z]
  | .vl v => [v.txt]
  | .vls vs => vs.map Vl.txt
def En.head : En → String
  | .inl _ => "def"
  | .inr (.set ..) => "set"
  | .inr (.push ..) => "push"
  | .inr (.pop ..) => "pop"
  | .inr (.put ..) => "put"
  | .inr (.ask ..) => "ask"
  | .inr (.tell ..) => "tell"
  | .inr (.fail ..) => "fail"
  | .inr (.call ..) => "call"
  | .inr (.ret ..) => "return"
  | .inr (.ife ..) => "if"
  | .inr (.whl ..) => "while"
  | .inr (.tr ..) => "try"
def En.parts : En → List Pt
  | .inl n => [.tx n]
  | .inr (.set x v) => [.tx x, .vl v]
  | .inr (.push x v) => [.tx x, .vl v]
  | .inr (.pop x l) => [.tx x, .tx l]
  | .inr (.put l v u) => [.tx l, .vl v, .vl u]
  | .inr (.ask x d) => [.tx x, .tx d]
  | .inr (.tell v) => [.vl v]
  | .inr (.fail v) => [.vl v]
  | .inr (.call x f vs) => [.tx x, .tx f, .vls vs]
  | .inr (.ret v) => [.vl v]
  | .inr (.ife v _ _) => [.vl v]
  | .inr (.whl v _) => [.vl v]
  | .inr (.tr ..) => []
def En.words (e : En) : List Str := Str.ofString e.head :: e.parts.flatMap Pt.w
def En.txt (e : En) : Str := Str.join sp1 e.words
def En.nest (e : En) : Prop := e.head = "if" ∨ e.head = "while" ∨ e.head = "try"
theorem En.d_parts {e : En} (h : ¬ e.nest) : dE e = .tup (.str e.head :: e.parts.map Pt.d) := by
  rcases e with n | r
  · rfl
  · cases r with
    | ife => exact absurd (.inl rfl) h
    | whl => exact absurd (.inr (.inl rfl)) h
    | tr => exact absurd (.inr (.inr rfl)) h
    | _ => first | rfl | (simp only [dE, Rw.d]; rfl)
theorem En.cases (e : En) : (∃ v a b, e = .inr (.ife v a b)) ∨ (∃ v a, e = .inr (.whl v a)) ∨ (∃ a x b, e = .inr (.tr a x b)) ∨ (e.head ≠ "if" ∧ e.head ≠ "while" ∧ e.head ≠ "try" ∧ ¬ e.nest) := by
  rcases e with n | r
  · exact .inr (.inr (.inr (by simp [En.head, En.nest])))
  · cases r with
    | ife v a b => exact .inl ⟨v, a, b, rfl⟩
    | whl v a => exact .inr (.inl ⟨v, a, rfl⟩)
    | tr a x b => exact .inr (.inr (.inl ⟨a, x, b, rfl⟩))
    | _ => exact .inr (.inr (.inr (by simp [En.head, En.nest])))
theorem En.part_call {e : En} {vs : List Vl} (h : Pt.vls vs ∈ e.parts) : e.head = "call" := by
  rcases e with n | r
  · simp [En.parts] at h
  · cases r <;> simp [En.parts] at h <;> rfl
theorem En.part_val {e : En} {v : Vl} (h : Pt.vl v ∈ e.parts) : e.head ≠ "call" := by
  rcases e with n | r
  · simp [En.parts] at h
  · cases r <;> simp [En.parts] at h <;> simp [En.head]
/-- what is asked of a row to be told -/
def En.ok (e : En) : Prop := ∃ N : Nms, N.nm ∧ match e with
  | .inl n => isNm n = true
  | .inr r => r.ok N
theorem Nms.len {N : Nms} (h : N.nm) : (∀ z, N.B z → z.length ≤ 6) ∧ (∀ z, N.L z → z.length ≤ 6) ∧ (∀ z n, N.F z n → z.length ≤ 6) ∧ (∀ z, N.Dr z → z.length ≤ 6) := by
  have k : ∀ z : Str, isNm z = true → z.length ≤ 6 := fun z hz => by simp only [isNm, Bool.and_eq_true, decide_eq_true_eq] at hz; omega
  exact ⟨fun z hz => k z (h.1 z hz), fun z hz => k z (h.2.1 z hz), fun z n hz => k z (h.2.2.1 z n hz), fun z hz => k z (h.2.2.2 z hz)⟩
theorem Vl.txt_len {N : Nms} (hN : N.nm) {v : Vl} (h : v.ok4 N) : v.txt.length ≤ 240 := by
  have h1 := join_len v.words
  have h2 := Vl.wl_words hN.1 hN.2.1 v h.1
  have h3 : 2 ^ v.dp ≤ 2 ^ 4 := Nat.pow_le_pow_right (by decide) h.2
  unfold Vl.txt
  omega
theorem wl_txts {N : Nms} (hN : N.nm) : ∀ {vs : List Vl}, (∀ v ∈ vs, v.ok4 N) → wl (vs.map Vl.txt) ≤ 241 * vs.length
  | [], _ => Nat.zero_le _
  | v :: vs, h => by
    have h1 := Vl.txt_len hN (h v List.mem_cons_self)
    have h2 := wl_txts hN (vs := vs) fun u hu => h u (List.mem_cons_of_mem _ hu)
    rw [List.map_cons, wl_cons, List.length_cons]; omega
theorem En.wl_words {e : En} (h : e.ok) : wl e.words ≤ 800 := by
  obtain ⟨N, hN, h⟩ := h
  obtain ⟨l1, l2, l3, l4⟩ := Nms.len hN
  rcases e with n | r
  · have : n.length ≤ 6 := by have := h; simp only [isNm, Bool.and_eq_true, decide_eq_true_eq] at this; omega
    simp only [En.words, En.head, En.parts, List.flatMap_cons, List.flatMap_nil, Pt.w, List.append_nil, wl_cons]
    show 3 + 1 + (n.length + 1 + 0) ≤ _
    omega
  · cases r with
    | set x v =>
      have := l1 x h.1; have := Vl.txt_len hN h.2
      simp only [En.words, En.head, En.parts, List.flatMap_cons, List.flatMap_nil, Pt.w, List.append_nil, List.cons_append, List.nil_append, wl_cons]
      show 3 + 1 + (x.length + 1 + (v.txt.length + 1 + 0)) ≤ _
      omega
    | push x v =>
      have := l2 x h.1; have := Vl.txt_len hN h.2
      simp only [En.words, En.head, En.parts, List.flatMap_cons, List.flatMap_nil, Pt.w, List.append_nil, List.cons_append, List.nil_append, wl_cons]
      show 4 + 1 + (x.length + 1 + (v.txt.length + 1 + 0)) ≤ _
      omega
    | pop x v =>
      have := l1 x h.1; have := l2 v h.2
      simp only [En.words, En.head, En.parts, List.flatMap_cons, List.flatMap_nil, Pt.w, List.append_nil, List.cons_append, List.nil_append, wl_cons]
      show 3 + 1 + (x.length + 1 + (v.length + 1 + 0)) ≤ _
      omega
    | put l v u =>
      have := l2 l h.1; have := Vl.txt_len hN h.2.1; have := Vl.txt_len hN h.2.2
      simp only [En.words, En.head, En.parts, List.flatMap_cons, List.flatMap_nil, Pt.w, List.append_nil, List.cons_append, List.nil_append, wl_cons]
      show 3 + 1 + (l.length + 1 + (v.txt.length + 1 + (u.txt.length + 1 + 0))) ≤ _
      omega
    | ask x d =>
      have := l1 x h.1; have := l4 d h.2
      simp only [En.words, En.head, En.parts, List.flatMap_cons, List.flatMap_nil, Pt.w, List.append_nil, List.cons_append, List.nil_append, wl_cons]
      show 3 + 1 + (x.length + 1 + (d.length + 1 + 0)) ≤ _
      omega
    | tell v =>
      have := Vl.txt_len hN h
      simp only [En.words, En.head, En.parts, List.flatMap_cons, List.flatMap_nil, Pt.w, List.append_nil, List.cons_append, List.nil_append, wl_cons]
      show 4 + 1 + (v.txt.length + 1 + 0) ≤ _
      omega
    | fail v =>
      have := Vl.txt_len hN h
      simp only [En.words, En.head, En.parts, List.flatMap_cons, List.flatMap_nil, Pt.w, List.append_nil, List.cons_append, List.nil_append, wl_cons]
      show 4 + 1 + (v.txt.length + 1 + 0) ≤ _
      omega
    | call x f vs =>
      have := l1 x h.1; have := l3 f _ h.2.1; have := wl_txts hN h.2.2.2; have := h.2.2.1
      simp only [En.words, En.head, En.parts, List.flatMap_cons, List.flatMap_nil, Pt.w, List.append_nil, List.cons_append, List.nil_append, wl_cons]
      show 4 + 1 + (x.length + 1 + (f.length + 1 + wl (vs.map Vl.txt))) ≤ _
      omega
    | ret v =>
      have := Vl.txt_len hN h.2
      simp only [En.words, En.head, En.parts, List.flatMap_cons, List.flatMap_nil, Pt.w, List.append_nil, List.cons_append, List.nil_append, wl_cons]
      show 6 + 1 + (v.txt.length + 1 + 0) ≤ _
      omega
    | ife v a b =>
      have := Vl.txt_len hN h.1
      simp only [En.words, En.head, En.parts, List.flatMap_cons, List.flatMap_nil, Pt.w, List.append_nil, List.cons_append, List.nil_append, wl_cons]
      show 2 + 1 + (v.txt.length + 1 + 0) ≤ _
      omega
    | whl v a =>
      have := Vl.txt_len hN h.1
      simp only [En.words, En.head, En.parts, List.flatMap_cons, List.flatMap_nil, Pt.w, List.append_nil, List.cons_append, List.nil_append, wl_cons]
      show 5 + 1 + (v.txt.length + 1 + 0) ≤ _
      omega
    | tr a x b =>
      simp only [En.words, En.head, En.parts, List.flatMap_nil, wl_cons]
      show 3 + 1 + 0 ≤ _
      omega
theorem En.txt_len {e : En} (h : e.ok) : e.txt.length ≤ 800 := Nat.le_trans (join_len _) (En.wl_words h)
/-! lines -/
def sp2 : Str := Str.ofString "  "
def elseL (ah : Str) (b : List Rw) : List Str := match b with | [] => [] | _ :: _ => [ah ++ Str.ofString "else"]
mutual
def linesR : Str → Rw → List Str
  | ah, .ife v a b => (ah ++ En.txt (.inr (.ife v a b))) :: (linesRs (ah ++ sp2) a ++ (elseL ah b ++ linesRs (ah ++ sp2) b) ++ [ah ++ Str.ofString "end"])
  | ah, .whl v a => (ah ++ En.txt (.inr (.whl v a))) :: (linesRs (ah ++ sp2) a ++ [ah ++ Str.ofString "end"])
  | ah, .tr a x b => (ah ++ En.txt (.inr (.tr a x b))) :: (linesRs (ah ++ sp2) a ++ ([ah ++ Str.ofString "catch " ++ x] ++ linesRs (ah ++ sp2) b) ++ [ah ++ Str.ofString "end"])
  | ah, r => [ah ++ En.txt (.inr r)]
def linesRs : Str → List Rw → List Str
  | _, [] => []
  | ah, r :: l => linesR ah r ++ linesRs ah l
end
theorem linesRs_app : ∀ (ah : Str) (l m : List Rw), linesRs ah (l ++ m) = linesRs ah l ++ linesRs ah m
  | ah, [], m => by simp [linesRs]
  | ah, r :: l, m => by rw [List.cons_append, linesRs, linesRs, linesRs_app ah l m, List.append_assoc]
theorem linesRs_one (ah : Str) (r : Rw) : linesRs ah [r] = linesR ah r := by rw [linesRs, linesRs, List.append_nil]
theorem linesR_ife (ah : Str) (v : Vl) (a b : List Rw) : linesR ah (.ife v a b) = (ah ++ En.txt (.inr (.ife v a b))) :: (linesRs (ah ++ sp2) a ++ (elseL ah b ++ linesRs (ah ++ sp2) b) ++ [ah ++ Str.ofString "end"]) := by rw [linesR]
theorem linesR_plain {ah : Str} {r : Rw} (h : ¬ En.nest (.inr r)) : linesR ah r = [ah ++ En.txt (.inr r)] := by
  cases r with
  | ife => exact absurd (.inl rfl) h
  | whl => exact absurd (.inr (.inl rfl)) h
  | tr => exact absurd (.inr (.inr rfl)) h
  | _ => simp only [linesR]
theorem elseL_len (ah : Str) (b : List Rw) : (elseL ah b).length ≤ 1 := by cases b <;> simp [elseL]
def Rw.okx (r : Rw) : Prop := ∃ N : Nms, N.nm ∧ r.ok N
def Rw.oksx (l : List Rw) : Prop := ∃ N : Nms, N.nm ∧ Rw.oks N l
theorem Rw.okx_en {r : Rw} (h : r.okx) : En.ok (.inr r) := h
theorem Rw.oksx_mem {l : List Rw} {r : Rw} (h : Rw.oksx l) (m : r ∈ l) : r.okx := by
  obtain ⟨N, hN, h⟩ := h
  exact ⟨N, hN, Rw.oks_iff.mp h r m⟩
theorem Rw.okx_ins {r : Rw} {s : List Rw} (h : r.okx) (m : s ∈ r.ins) : Rw.oksx s := by
  obtain ⟨N, hN, h⟩ := h
  refine ⟨N, hN, ?_⟩
  cases r <;> simp only [Rw.ins, List.mem_cons, List.not_mem_nil, or_false] at m
  · rcases m with rfl | rfl
    · exact h.2.1
    · exact h.2.2
  · subst m; exact h.2
  · rcases m with rfl | rfl
    · exact h.2.1
    · exact h.2.2
mutual
theorem len_linesR : ∀ (r : Rw) (ah : Str), (linesR ah r).length ≤ 3 * r.cnt
  | .ife v a b, ah => by
    have h1 := len_linesRs a (ah ++ sp2); have h2 := len_linesRs b (ah ++ sp2); have h3 := elseL_len ah b
    rw [linesR_ife]; simp only [List.length_cons, List.length_append, List.length_nil, Rw.cnt]; omega
  | .whl v a, ah => by
    have h1 := len_linesRs a (ah ++ sp2)
    rw [linesR]; simp only [List.length_cons, List.length_append, List.length_nil, Rw.cnt]; omega
  | .tr a x b, ah => by
    have h1 := len_linesRs a (ah ++ sp2); have h2 := len_linesRs b (ah ++ sp2)
    rw [linesR]; simp only [List.length_cons, List.length_append, List.length_nil, Rw.cnt]; omega
  | .set .., _ => by simp [linesR, Rw.cnt]
  | .push .., _ => by simp [linesR, Rw.cnt]
  | .pop .., _ => by simp [linesR, Rw.cnt]
  | .put .., _ => by simp [linesR, Rw.cnt]
  | .ask .., _ => by simp [linesR, Rw.cnt]
  | .tell .., _ => by simp [linesR, Rw.cnt]
  | .fail .., _ => by simp [linesR, Rw.cnt]
  | .call .., _ => by simp [linesR, Rw.cnt]
  | .ret .., _ => by simp [linesR, Rw.cnt]
theorem len_linesRs : ∀ (l : List Rw) (ah : Str), (linesRs ah l).length ≤ 3 * Rw.cnts l
  | [], _ => by simp [linesRs]
  | r :: l, ah => by
    have h1 := len_linesR r ah; have h2 := len_linesRs l ah
    rw [linesRs, List.length_append, Rw.cnts]; omega
end
def Short (m : Nat) (ls : List Str) : Prop := ∀ z ∈ ls, z.length ≤ m
theorem Short.app {m : Nat} {a b : List Str} (h : Short m a) (h' : Short m b) : Short m (a ++ b) := fun z hz => (List.mem_append.mp hz).elim (h z) (h' z)
theorem Short.cons {m : Nat} {a : Str} {b : List Str} (h : a.length ≤ m) (h' : Short m b) : Short m (a :: b) := fun z hz => (List.mem_cons.mp hz).elim (fun e => by rw [e]; exact h) (h' z)
theorem Short.nil {m : Nat} : Short m [] := fun _ h => by cases h
theorem wl_short {m : Nat} : ∀ {l : List Str}, Short m l → wl l ≤ l.length * (m + 1)
  | [], _ => Nat.zero_le _
  | x :: l, h => by
    have h1 := h x List.mem_cons_self
    have h2 := wl_short (l := l) fun z hz => h z (List.mem_cons_of_mem _ hz)
    rw [wl_cons, List.length_cons, Nat.succ_mul]; omega
theorem sla (a b : Str) : (a ++ b).length = a.length + b.length := Str.length_append a b
mutual
theorem short_linesR : ∀ (r : Rw) (ah : Str), r.okx → ah.length + 2 * r.dpt ≤ 100 → Short 1000 (linesR ah r)
  | .ife v a b, ah, h, hl => by
    simp only [Rw.dpt] at hl
    have h1 := short_linesRs a (ah ++ sp2) (Rw.okx_ins h (by simp [Rw.ins])) (by rw [sla]; show ah.length + 2 + _ ≤ _; omega)
    have h2 := short_linesRs b (ah ++ sp2) (Rw.okx_ins h (by simp [Rw.ins])) (by rw [sla]; show ah.length + 2 + _ ≤ _; omega)
    have ht := En.txt_len (Rw.okx_en h)
    have h3 : Short 1000 (elseL ah b) := by
      cases b
      · exact .nil
      · exact .cons (by rw [sla]; show ah.length + 4 ≤ _; omega) .nil
    rw [linesR_ife]
    exact .cons (by rw [sla]; omega) ((h1.app (h3.app h2)).app (.cons (by rw [sla]; show ah.length + 3 ≤ _; omega) .nil))
  | .whl v a, ah, h, hl => by
    simp only [Rw.dpt] at hl
    have h1 := short_linesRs a (ah ++ sp2) (Rw.okx_ins h (by simp [Rw.ins])) (by rw [sla]; show ah.length + 2 + _ ≤ _; omega)
    have ht := En.txt_len (Rw.okx_en h)
    rw [linesR]
    exact .cons (by rw [sla]; omega) (h1.app (.cons (by rw [sla]; show ah.length + 3 ≤ _; omega) .nil))
  | .tr a x b, ah, h, hl => by
    simp only [Rw.dpt] at hl
    have h1 := short_linesRs a (ah ++ sp2) (Rw.okx_ins h (by simp [Rw.ins])) (by rw [sla]; show ah.length + 2 + _ ≤ _; omega)
    have h2 := short_linesRs b (ah ++ sp2) (Rw.okx_ins h (by simp [Rw.ins])) (by rw [sla]; show ah.length + 2 + _ ≤ _; omega)
    have ht := En.txt_len (Rw.okx_en h)
    have hx : x.length ≤ 6 := by
      obtain ⟨N, hN, h⟩ := h
      exact (Nms.len hN).1 x h.1
    rw [linesR]
    exact .cons (by rw [sla]; omega) ((h1.app (.cons (by rw [sla, sla]; show ah.length + 6 + x.length ≤ _; omega) h2)).app (.cons (by rw [sla]; show ah.length + 3 ≤ _; omega) .nil))
  | .set .., ah, h, hl => by have ht := En.txt_len (Rw.okx_en h); rw [linesR_plain (by simp [En.nest, En.head])]; exact .cons (by rw [sla]; omega) .nil
  | .push .., ah, h, hl => by have ht := En.txt_len (Rw.okx_en h); rw [linesR_plain (by simp [En.nest, En.head])]; exact .cons (by rw [sla]; omega) .nil
  | .pop .., ah, h, hl => by have ht := En.txt_len (Rw.okx_en h); rw [linesR_plain (by simp [En.nest, En.head])]; exact .cons (by rw [sla]; omega) .nil
  | .put .., ah, h, hl => by have ht := En.txt_len (Rw.okx_en h); rw [linesR_plain (by simp [En.nest, En.head])]; exact .cons (by rw [sla]; omega) .nil
  | .ask .., ah, h, hl => by have ht := En.txt_len (Rw.okx_en h); rw [linesR_plain (by simp [En.nest, En.head])]; exact .cons (by rw [sla]; omega) .nil
  | .tell .., ah, h, hl => by have ht := En.txt_len (Rw.okx_en h); rw [linesR_plain (by simp [En.nest, En.head])]; exact .cons (by rw [sla]; omega) .nil
  | .fail .., ah, h, hl => by have ht := En.txt_len (Rw.okx_en h); rw [linesR_plain (by simp [En.nest, En.head])]; exact .cons (by rw [sla]; omega) .nil
  | .call .., ah, h, hl => by have ht := En.txt_len (Rw.okx_en h); rw [linesR_plain (by simp [En.nest, En.head])]; exact .cons (by rw [sla]; omega) .nil
  | .ret .., ah, h, hl => by have ht := En.txt_len (Rw.okx_en h); rw [linesR_plain (by simp [En.nest, En.head])]; exact .cons (by rw [sla]; omega) .nil
theorem short_linesRs : ∀ (l : List Rw) (ah : Str), Rw.oksx l → ah.length + 2 * Rw.dpts l ≤ 100 → Short 1000 (linesRs ah l)
  | [], ah, _, _ => by rw [linesRs]; exact .nil
  | r :: l, ah, h, hl => by
    simp only [Rw.dpts] at hl
    have h1 := short_linesR r ah (Rw.oksx_mem h List.mem_cons_self) (by omega)
    have h2 := short_linesRs l ah (by obtain ⟨N, hN, h⟩ := h; exact ⟨N, hN, h.2⟩) (by omega)
    rw [linesRs]; exact h1.app h2
end
end RT

/-! ## 23. errors as values -/
namespace RT
open PySem PySem.Spec PyProof.Rows L2
def rIsX (K : PySem.W.Frag) : List V → Hp → VK → Prop := fun xs H Q => ∃ (a D : Addr) (c : V) (cv : Value) (b : Bool), xs = [.ref a, c] ∧ H a = some (ExO (.ref D) a) ∧ ExcC K D ∧ (∀ u, RelV c u → u = cv) ∧ PySem.W.kitOne K (.ref D) cv = some b ∧ Q (.bl b) H
theorem call_isX {X : Cx} {K : PySem.W.Frag} (hK : X.K = K := by rfl) : CallR X (.builtin "isinstance") (rIsX K) := by
  subst hK
  intro pins s σ H xs us Q I r h
  obtain ⟨a, D, c, cv, b, rfl, ha, C, hcv, e, q⟩ := h
  cases r with
  | cons rx rr =>
    cases rr with
    | cons rt rr =>
      cases rr
      cases rx
      have ec := hcv _ rt
      subst ec
      obtain ⟨⟨oe, vs, ho, hz, hv, _⟩, _, _⟩ := I.hok a _ ha
      have J : PySem.W.InstAt s.heap a oe D none := by
        obtain ⟨oc, od, oda, osl⟩ := oe
        obtain ⟨h1, h2⟩ := hz
        dsimp only at h1 h2 hv
        subst h1 h2 hv
        exact ⟨ho, rfl, rfl, trivial⟩
      exact PySem.W.kia_one (PySem.W.handS_kitx_exc C.hg C.hk C.hs C.hd C.ha C.hn C.ht C.hm) I.kIn J e (fun z => nomatch z) fun tk => ⟨.bl b, H, I.kept (t' := tk) fun _ _ z => z, rfl, q⟩
def tExc (C : Addr) (ta : TE) : TE := fun σ H Q => ta σ H fun _ H1 => ∀ a, H1 a = none → Q (.ref a) (upd H1 a (ExO (.ref C) a))
theorem pe_excU {X : Cx} {K : PySem.W.Frag} {x : Str} {mg : Str → Option Value} {e : Expr} {ta : TE} {p pos : Pos} (h : ExcAt K mg x) (he : PE X e ta) (hK : X.K = K := by rfl) (hm : X.mg = mg := by rfl) (hg : Gl X x := by rfl)
    (hs : starEach [e] X.env = (false, eval e X.env) :: starEach [] X.env := by rfl) (hdb : (x == ("__debug__" : Str)) = false := by decide) : PE X (.Call (.Name x p) [e] [] pos) (tExc h.C ta) := by
  subst hK hm
  exact pe_exc1 PySem.F.excBase_ValueError h.ex h.g h.kp hg he hs hdb
section
variable {te : TE} {σ : L2.St} {H : Hp} {K : PySem.W.Frag} {Q : VK}
def NewE (C : Addr) (H : Hp) (Q : VK) : Prop := ∀ a, H a = none → Q (.ref a) (upd H a (ExO (.ref C) a))
theorem v_exc {C : Addr} (h : te σ H fun _ H1 => NewE C H1 Q) : tExc C te σ H Q := h
theorem v_newE {C : Addr} (h : ∀ a H', H a = none → Chg [] H H' → H' a = some (ExO (.ref C) a) → Q (.ref a) H') : NewE C H Q := fun a ha => h a _ ha (.new ha) upd_same
theorem v_isX {a D : Addr} {c : V} {cv : Value} {b : Bool} (ha : H a = some (ExO (.ref D) a)) (C : ExcC K D) (hcv : ∀ u, RelV c u → u = cv) (hk : PySem.W.kitOne K (.ref D) cv = some b) (q : Q (.bl b) H) : rIsX K [.ref a, c] H Q := ⟨a, D, c, cv, b, rfl, ha, C, hcv, hk, q⟩
end
/-! ## 24. texts: partition, split, upper, slices, int -/
def uIntS : List V → Hp → VK → Prop := fun xs H Q => ∃ a n, xs = [.str a] ∧ PySem.intText? a = some n ∧ a.length ≤ 640 ∧ Q (.int n) H
theorem call_uintS {X : Cx} : CallR X (.type "int") uIntS := call_int_str
def uPart : V → List V → Hp → VK → Prop := fun x xs H Q => ∃ a b, x = .str a ∧ xs = [.str b] ∧ (b.length == 0) = false ∧ a.length ≤ sizeLine ∧
  ∀ p, H p = none → Q (.ref p) (upd H p (.tup [.str (Txt.partition a b).1, .str (Txt.partition a b).2.1, .str (Txt.partition a b).2.2]))
theorem mt_upart {X : Cx} : MtR X "str.partition" uPart := mt_partition
def uSplit : V → List V → Hp → VK → Prop := fun x xs H Q => ∃ a b, x = .str a ∧ xs = [.str b] ∧ (b.length == 0) = false ∧ a.length + 2 ≤ sizeLine ∧ rNewStrs (Txt.split a b) H Q
theorem mt_usplit {X : Cx} : MtR X "str.split" uSplit := mt_split
def uUpper : V → List V → Hp → VK → Prop := fun x xs H Q => ∃ a, x = .str a ∧ xs = [] ∧ a.length ≤ 5592405 ∧ Q (.str (Txt.upper a)) H
theorem mt_uupper {X : Cx} : MtR X "str.upper" uUpper := mt_upper
def uSlS (K : PySem.W.Frag) : V → Option Int → Option Int → Hp → VK → Prop := fun x lo hi H Q => uSl K x lo hi H Q ∨ rSlS x lo hi H Q
theorem sl_uS {X : Cx} {K : PySem.W.Frag} (hK : X.K = K := by rfl) : SlR X (uSlS K) := by
  subst hK
  exact SlR.or sl_u sl_str
section
variable {H : Hp} {K : PySem.W.Frag} {Q : VK}
theorem v_part_s {a b : Str} (hb : (b.length == 0) = false) (hl : a.length ≤ sizeLine) (q : ∀ p H', H p = none → Chg [] H H' → H' p = some (.tup [.str (Txt.partition a b).1, .str (Txt.partition a b).2.1, .str (Txt.partition a b).2.2]) → Q (.ref p) H') : uPart (.str a) [.str b] H Q :=
  ⟨a, b, rfl, rfl, hb, hl, fun p hp => q p _ hp (.new hp) upd_same⟩
theorem v_split_s {a b : Str} (hb : (b.length == 0) = false) (hl : a.length + 2 ≤ sizeLine) (q : ∀ p H', H p = none → Chg [] H H' → H' p = some (.lst ((Txt.split a b).map V.str)) → Q (.ref p) H') : uSplit (.str a) [.str b] H Q :=
  ⟨a, b, rfl, rfl, hb, hl, fun p hp => q p _ hp (.new hp) upd_same⟩
theorem v_upper_s {a : Str} (hl : a.length ≤ 5592405) (q : Q (.str (Txt.upper a)) H) : uUpper (.str a) [] H Q := ⟨a, rfl, rfl, hl, q⟩
theorem v_slS {z : Str} {lo hi : Option Int} (hl : z.length ≤ sizeLine) (q : Q (.str (cutS z lo hi)) H) : uSlS K (.str z) lo hi H Q := .inr ⟨z, rfl, hl, q⟩
theorem v_intS {z : Str} {n : Int} (h : PySem.intText? z = some n) (hl : z.length ≤ 640) (q : Q (.int n) H) : uIntS [.str z] H Q := ⟨z, n, rfl, h, hl, q⟩
/-- one sign in a text -/
theorem v_in_sg {c : Nat} {z : Str} (q : Q (.bl (decide (c ∈ z.cps.toList))) H) : uIn K false (.str ⟨#[c]⟩) (.str z) H Q :=
  .inr ⟨⟨#[c]⟩, z, rfl, rfl, by
    show Q (.bl (!(Builtin.Str.occurrences z ⟨#[c]⟩ 0 z.length 1).isEmpty)) H
    rw [PySem.StrLaws.found_one z c]; exact q⟩
theorem v_nin_sg {c : Nat} {z : Str} (q : Q (.bl (!decide (c ∈ z.cps.toList))) H) : uIn K true (.str ⟨#[c]⟩) (.str z) H Q :=
  .inr ⟨⟨#[c]⟩, z, rfl, rfl, by
    show Q (.bl (!(!(Builtin.Str.occurrences z ⟨#[c]⟩ 0 z.length 1).isEmpty))) H
    rw [PySem.StrLaws.found_one z c]; exact q⟩
end
theorem mt_uindex {X : Cx} {K : PySem.W.Frag} (hK : X.K = K := by rfl) : MtR X "list.index" (rIndex K) := by
  subst hK
  exact mt_index
theorem v_index {H : Hp} {K : PySem.W.Frag} {Q : VK} {a : Addr} {ys : List V} {y z : V} (j : Nat) (h : SqL K H a ys) (fy : flatV y = true) (fys : ys.all flatV = true) (hz : ys[j]? = some z) (he : eqV z y = true) (hno : ∀ (m : Nat) (z' : V), m < j → ys[m]? = some z' → eqV z' y = false)
    (q : Q (.int (j : Nat)) H) : rIndex K (.ref a) [y] H Q := ⟨a, ys, y, j, z, rfl, rfl, h, fy, fys, hz, he, hno, q⟩
theorem blkOk_in {N N' : List Str} {sc sc' scope : Scope} {own : List (Str × Nat)} (hN : N' = N) (hs : sc' = sc) (h : blkC N sc scope own = true) : BlkOk N' sc' scope own := by
  subst hN hs
  exact blkOk_by h
theorem cutS_len (z : Str) (lo hi : Option Int) : (cutS z lo hi).length ≤ z.length := by
  unfold cutS
  simp only [Str.length, Array.size_extract, List.size_toArray, List.length_take, List.length_drop, Array.length_toList]
  omega
end RT
/-! ## 25. a for over a tuple while an error is held -/
namespace RT
open PySem PySem.Spec PyProof.Rows L2 L2H HotX
section
variable {prog : Program} {w : World} {A : Around} {E : Value → Shared → Prop} {s : Shared}
theorem pyNext_tuple_end_hot {it t x1 : Addr} {i : Nat} {items : Array Value} {Q : Option Value → Shared → Prop} (hot : HotAt A x1 s.heap) (hne : x1 ≠ it)
    (hit : s.heap.IsTupleIter it t i) (ht : s.heap.IsTuple t items) (hx : items[i]? = none)
    (hQ : ∀ h', (∀ b o, b ≠ it → s.heap.get? b = some o → h'.get? b = some o) → Q none { s with heap := h' }) : wpAny (model prog w) A (pyNext (.ref it)) Q E s := by
  obtain ⟨o, ho, hc, hd⟩ := id hit
  obtain ⟨ol, hol, _, nl, hdl⟩ := ht
  obtain ⟨hh, o1, vs1, h1, d1, c1⟩ := hot
  unfold pyNext
  refine wpAny_bind (wpAny_attempt (wpAny_callSpecial?_slot (name := Str.ofString "__next__") hit.typeIs PySem.F.slot_tuple_iterator_next
    (wpAny_call_entry PySem.F.slot_tuple_iterator_next hit.typeIs PySem.F.entry_tuple_iterator_next ?_ (PySem.F.args_tuple_iterator_next_1 _))))
  show wpAny _ _ (field (.ref it) 0 >>= _) _ _ s
  refine wpAny_bind (wpAny_field ho hd (x := .ref t) rfl ?_)
  show wpAny _ _ (if (Value.ref t == Value.none) = true then _ else _) _ _ s
  rw [if_neg (show ¬ ((Value.ref t == Value.none) = true) from Bool.false_ne_true)]
  show wpAny _ _ (field (.ref it) 1 >>= _) _ _ s
  refine wpAny_bind (wpAny_field ho hd (x := .int i 0) rfl ?_)
  show wpAny _ _ (seqItems? (.ref t) >>= _) _ _ s
  refine wpAny_bind (wpAny_seqItems hol hdl ?_)
  simp only [Int.toNat_natCast, hx]
  refine wpAny_bind (wpAny_rule (wpAny_bind (wpAny_setField ho hd (by simp) ?_)))
  show wpAny _ _ (newExc (.type "StopIteration") [] >>= _) _ _ _
  refine wpAny_bind ?_
  simp only [newExc, newTuple]
  refine wpAny_bind (wpAny_newObj_type ?_ (by size_fits))
  refine wpAny_bind (m := firstArgMember _ _) (wpAny_of_eq (a := Value.none) (by first | rfl | (simp only [firstArgMember]; rfl)) ?_)
  refine wpAny_newObj_type ?_ (by size_fits)
  have h1' : (s.heap.update it (Obj.mapFields (·.setIfInBounds 0 Value.none))).get? x1 = some o1 := (Heap.get?_update_other _ _ (Ne.symm hne)).trans h1
  refine raiseNew_hot ⟨hh, o1, vs1, Heap.get?_push_of_some _ (Heap.get?_push_of_some _ h1'), d1, c1⟩ (Nat.ne_of_lt (Heap.lt_size (Heap.get?_push_of_some _ h1'))) (Heap.get?_push_size _ rfl) rfl (by first | (simp; done) | (simp; omega) | (simp only [Array.size_append]; simp; omega)) ?_
  refine wpAny_bind (wpAny_isInstance (T := "StopIteration") (b := true) ⟨_, Heap.get?_update_self _ (Heap.get?_push_size _ rfl) rfl, rfl⟩ isSubtype_stop ?_)
  refine wpAny_pure (hQ _ fun b o' hb e => ?_)
  have e' : (s.heap.update it (Obj.mapFields (·.setIfInBounds 0 Value.none))).get? b = some o' := (Heap.get?_update_other _ _ (Ne.symm hb)).trans e
  rw [Heap.get?_update_other _ _ (Nat.ne_of_gt (Heap.lt_size (Heap.get?_push_of_some _ e')))]
  exact Heap.get?_push_of_some _ (Heap.get?_push_of_some _ e')
end
/-- turns over a tuple -/
theorem turn_tupleH {P : Program} {w : World} {K : PySem.W.Frag} {tg : Expr} (a it : Addr) : TurnH P w K tg (Itt K a) [it] it (fun i h => h.IsTupleIter it a i) where
  mem := by simp
  obj := fun i h st b hb => by
    have e : b = it := by simpa using hb
    subst e
    obtain ⟨o, e, c, d⟩ := st
    exact ⟨o, e, fun v z => by rw [d] at z; cases z⟩
  keep := fun i h h' st k => st.at fun o e => k it (by simp) o e
  item := by
    intro X hP hw hK hc i pins s σ H E I hf st hg
    subst hP hw hK
    obtain ⟨xs, x, hq, hx⟩ := hg
    obtain ⟨its, rv, p, hz⟩ := I.tuple hq
    obtain ⟨u, hu, ru⟩ := rv.get hx
    obtain ⟨f0, f1, f2, f3, f4, f5⟩ := hf it (by simp)
    refine wpAny_pyNext_tuple_item st (show s.heap.IsTuple a its.toArray from p) (x := u) (by simpa using hu) fun h' st' sb => ?_
    have I1 : Inv X pins σ H { s with heap := h' } := I.turned (t' := s.toks) (fun b o hb e => (sb.2 b hb).trans e) f0 f1 f3 f4 f5
    obtain ⟨o, e, c, d⟩ := id st'
    exact ⟨u, rfl, go_of (s := { s with heap := h' }) e c d (by decide) ⟨x, H, I1, ru, ⟨rfl, fun ys hy => by rw [I.tuple_inj hy hq]; exact hx⟩, st', fun b hb => (hf b hb).1⟩⟩
  done := by
    intro X hP hw hK hc i pins s σ H E I hf st hg
    subst hP hw hK
    obtain ⟨xs, hq, hx⟩ := hg
    obtain ⟨its, rv, p, hz⟩ := I.tuple hq
    obtain ⟨f0, f1, f2, f3, f4, f5⟩ := hf it (by simp)
    have hl := rv.length
    obtain ⟨q, ⟨hh, vs, hd, h2⟩, hm⟩ := hc
    have hp := (I.pin q (List.mem_append_left _ hm)).1
    exact pyNext_tuple_end_hot (x1 := q.1) ⟨hh, q.2, vs, hp, hd, h2⟩ (f5 q (List.mem_append_left _ hm)) st (show s.heap.IsTuple a its.toArray from p) (by simp; omega) fun h' eb => ⟨rfl, I.turned (t' := s.toks) (fun b o hb e => eb b o hb e) f0 f1 f3 f4 f5⟩
  self := fun _ _ _ _ _ st h => wpAny_pyIter_tupleiter st h
def iTupH (K : PySem.W.Frag) (tl : TE) : TI := fun σ H R => tl σ H fun x H1 => ∃ a, x = .ref a ∧ (∃ xs, SqT K H1 a xs) ∧ R (Itt K a) H1
theorem pi_tupH {X : Cx} {K : PySem.W.Frag} {tg l : Expr} {tl : TE} (hl : PE X l tl) (hK : X.K = K := by rfl) : PIH X tg l (iTupH K tl) := by
  subst hK
  refine ⟨fun pins s σ H R I h => ?_⟩
  refine thn (hl.run pins s σ H _ I h) fun v s1 hh => ?_
  obtain ⟨x, H1, I1, r1, a, rfl, ⟨xs, hq⟩, q⟩ := hh
  cases r1
  obtain ⟨its, rv, p, hz⟩ := I1.tuple hq
  refine wpAny_pyIter_tuple (show s1.heap.IsTuple a its.toArray from p) ?_
  refine ⟨s1.heap.objs.size, [s1.heap.objs.size], _, _, H1, rfl, I1.kept (t' := s1.toks) fun b o e => Heap.get?_push_of_some _ e, turn_tupleH a _, ⟨_, Heap.get?_push_size _ rfl, rfl, rfl⟩, fun b hb => ?_, q⟩
  have e : b = s1.heap.objs.size := by simpa using hb
  subst e
  exact I1.fpOk (Nat.le_refl _) (I1.hok.fresh (Nat.le_refl _))
def ItH (K : PySem.W.Frag) (x : V) (H1 : Hp) (R : It → Hp → Prop) : Prop := ∃ a, x = .ref a ∧ (∃ xs, SqT K H1 a xs) ∧ R (Itt K a) H1
theorem v_itH {K : PySem.W.Frag} {te : TE} {σ : L2.St} {H : Hp} {R : It → Hp → Prop} (h : te σ H fun x H1 => ItH K x H1 R) : iTupH K te σ H R := h
theorem v_itH_t {K : PySem.W.Frag} {H : Hp} {R : It → Hp → Prop} {a : Addr} {xs : List V} (hl : SqT K H a xs) (h : R (Itt K a) H) : ItH K (.ref a) H R := ⟨a, rfl, ⟨xs, hl⟩, h⟩
end RT

namespace Cl
open PySem PySem.Spec PyProof.Rows L2 RT
local macro_rules | `(tactic| walk_at "v0") => `(tactic| first
  | with_reducible refine v_seq ?_
  | with_reducible refine v_next ?_
  | with_reducible refine v_asg ?_
  | with_reducible refine v_name ?_
  | with_reducible refine v_gcons ?_
  | with_reducible refine v_gnil ?_
  | ((with_reducible refine' v_var ?h ?_); case h => exact rfl)
  | with_reducible refine v_c ?_
  | with_reducible refine v_op ?_
  | with_reducible refine v_un ?_
  | with_reducible refine v_cons ?_
  | with_reducible refine v_nil ?_
  | with_reducible refine v_ret ?_
  | with_reducible refine v_drop ?_
  | with_reducible refine v_test ?_
  | with_reducible refine v_isb ?_
  | with_reducible refine v_tru ?_
  | with_reducible refine v_tru_b ?_
  | with_reducible refine v_tru_i ?_
  | with_reducible refine v_tru_n ?_
  | with_reducible refine v_and ?_
  | with_reducible refine v_or ?_
  | with_reducible refine v_not ?_
  | with_reducible refine v_notU ?_
  | with_reducible refine v_andV ?_
  | with_reducible refine v_orV ?_
  | with_reducible refine v_ifE ?_
  | with_reducible refine v_chain ?_
  | with_reducible refine v_callS ?_
  | with_reducible refine v_call ?_
  | with_reducible refine v_cb ?_
  | with_reducible refine v_bm ?_
  | with_reducible refine v_bm0 ?_
  | with_reducible refine v_bms ?_
  | with_reducible refine v_lst ?_
  | with_reducible refine v_tup ?_
  | with_reducible refine v_iteT ?_
  | with_reducible refine v_iteF ?_
  | with_reducible refine v_iteNT ?_
  | with_reducible refine v_iteNF ?_
  | with_reducible refine v_rI0 ?_
  | ((with_reducible refine' v_rI ?h ?_); case h => first | omega | (with_reducible decide) | (refine ⟨?_, ?_⟩ <;> omega) | (unfold CDiv; omega) | (unfold CMul; omega) | (unfold CPow; omega))
  | with_reducible refine v_rU ?_
  | with_reducible refine v_add_ii ?_
  | ((with_reducible refine' v_mul_ii ?h ?_); case h => (unfold CMul; omega))
  | with_reducible refine v_eq_ii ?_
  | with_reducible refine v_ne_ii ?_
  | with_reducible refine v_eq_ss ?_
  | with_reducible refine v_ne_ss ?_
  | with_reducible refine v_lt_ii ?_
  | with_reducible refine v_eq_bb ?_
  | with_reducible refine v_ne_bb ?_
  | with_reducible refine v_bits ?_
  | with_reducible refine v_pcons ?_
  | with_reducible refine v_pnil ?_
  | with_reducible refine v_ipI ?_
  | ((with_reducible refine' v_aug ?h ?_); case h => exact rfl)
  | with_reducible refine v_raise ?_
  | with_reducible refine v_isi_i_int ?_
  | with_reducible refine v_isi_i_bool ?_
  | with_reducible refine v_isi_i_str ?_
  | with_reducible refine v_isi_i_tuple ?_
  | with_reducible refine v_isi_i_list ?_
  | with_reducible refine v_isi_i_dict ?_
  | with_reducible refine v_isi_b_int ?_
  | with_reducible refine v_isi_b_bool ?_
  | with_reducible refine v_isi_b_str ?_
  | with_reducible refine v_isi_b_tuple ?_
  | with_reducible refine v_isi_b_list ?_
  | with_reducible refine v_isi_b_dict ?_
  | with_reducible refine v_isi_s_int ?_
  | with_reducible refine v_isi_s_bool ?_
  | with_reducible refine v_isi_s_str ?_
  | with_reducible refine v_isi_s_tuple ?_
  | with_reducible refine v_isi_s_list ?_
  | with_reducible refine v_isi_s_dict ?_
  | with_reducible refine v_isi_n_int ?_
  | with_reducible refine v_isi_n_bool ?_
  | with_reducible refine v_isi_n_str ?_
  | with_reducible refine v_isi_n_tuple ?_
  | with_reducible refine v_isi_n_list ?_
  | with_reducible refine v_isi_n_dict ?_
  | ((with_reducible refine' v_isi_flat ?h ?g ?_); (case h => first | assumption | exact rfl); (case g => simp [sixT]))
  | with_reducible refine v_sl ?_
  | with_reducible refine v_nopart ?_
  | with_reducible refine v_part ?_
  | with_reducible refine v_isi ?_
  | with_reducible refine v_max2 ?_
  | with_reducible refine v_min2 ?_
  | with_reducible refine v_int_i ?_
  | with_reducible refine v_int_b ?_
  | with_reducible refine v_retN ?_
  | with_reducible refine v_for ?_
  | with_reducible refine v_rng1 ?_
  | with_reducible refine v_rng2 ?_
  | with_reducible refine v_rng3 ?_
  | with_reducible refine v_it ?_
  | with_reducible refine v_itH ?_
  | with_reducible refine v_enumS ?_
  | with_reducible refine v_zipB ?_
  | with_reducible refine v_lc ?_
  | with_reducible refine v_sub ?_
  | with_reducible refine v_orT ?_
  | with_reducible refine v_exc ?_
  | with_reducible refine v_dget2 ?_
  | with_reducible refine v_yes ?_
  | with_reducible refine v_break ?_
  | with_reducible refine v_cont ?_)
local macro_rules | `(tactic| walk_at "v") => `(tactic| first | walk_at "v0" | with_reducible refine v_ifs ?_)
local macro_rules | `(tactic| walk_at "vp") => `(tactic| repeat (walk_at "v0"))
local macro_rules | `(tactic| walk_at "vs") => `(tactic| repeat (walk_at "v"))
local macro_rules | `(tactic| walk_at "vi") => `(tactic| first
  | with_reducible refine v_iteD (fun _ => ?_) (fun _ => ?_)
  | with_reducible refine v_iteN (fun _ => ?_) (fun _ => ?_)
  | with_reducible refine v_iteNB (fun _ => ?_) (fun _ => ?_)
  | with_reducible refine v_iteB (fun _ => ?_) (fun _ => ?_))
local macro_rules | `(tactic| walk_at "vx") => `(tactic| repeat' (first | walk_at "v" | walk_at "vi"))

def topS (i : Nat) : Stmt := PySem.Challenge.pw_retrace_k80_words.main.body.getD i (.Pass ⟨0, 0, 0, 0⟩)
structure Txt (K : PySem.W.Frag) (mg : Str → Option Value) : Type where
  n_len : mg "len" = none
  n_range : mg "range" = none
  n_tuple : mg "tuple" = none
  n_list : mg "list" = none
  n_int : mg "int" = none
  c_DEPTHS : ConAt mg "DEPTHS" (.str "1234567")
  n_str : mg "str" = none
  n_isinstance : mg "isinstance" = none
  n_ValueError : mg "ValueError" = none
  n_bool : mg "bool" = none
  x_NoCell : ExcAt K mg "NoCell"
  x_NoProgram : ExcAt K mg "NoProgram"
  x_NoRow : ExcAt K mg "NoRow"
  x_TooLong : ExcAt K mg "TooLong"
  x_NoWorld : ExcAt K mg "NoWorld"
  x_NoText : ExcAt K mg "NoText"
  x_NoStep : ExcAt K mg "NoStep"
  x_NoDoor : ExcAt K mg "NoDoor"
  x_NoWord : ExcAt K mg "NoWord"
  x_RunError : ExcAt K mg "RunError"
  kit_NoProgram__NoProgram : PySem.W.kitOne K (.ref x_NoProgram.C) (.ref x_NoProgram.C) = some true
  kit_NoRow__NoProgram : PySem.W.kitOne K (.ref x_NoRow.C) (.ref x_NoProgram.C) = some false
  kit_NoRow__NoRow : PySem.W.kitOne K (.ref x_NoRow.C) (.ref x_NoRow.C) = some true
  kit_TooLong__NoProgram : PySem.W.kitOne K (.ref x_TooLong.C) (.ref x_NoProgram.C) = some false
  kit_TooLong__NoRow : PySem.W.kitOne K (.ref x_TooLong.C) (.ref x_NoRow.C) = some false
  kit_TooLong__TooLong : PySem.W.kitOne K (.ref x_TooLong.C) (.ref x_TooLong.C) = some true
  kit_NoWorld__NoProgram : PySem.W.kitOne K (.ref x_NoWorld.C) (.ref x_NoProgram.C) = some false
  kit_NoWorld__NoRow : PySem.W.kitOne K (.ref x_NoWorld.C) (.ref x_NoRow.C) = some false
  kit_NoWorld__TooLong : PySem.W.kitOne K (.ref x_NoWorld.C) (.ref x_TooLong.C) = some false
  kit_NoWorld__NoWorld : PySem.W.kitOne K (.ref x_NoWorld.C) (.ref x_NoWorld.C) = some true
  kit_NoText__NoProgram : PySem.W.kitOne K (.ref x_NoText.C) (.ref x_NoProgram.C) = some false
  kit_NoText__NoRow : PySem.W.kitOne K (.ref x_NoText.C) (.ref x_NoRow.C) = some false
  kit_NoText__TooLong : PySem.W.kitOne K (.ref x_NoText.C) (.ref x_TooLong.C) = some false
  kit_NoText__NoWorld : PySem.W.kitOne K (.ref x_NoText.C) (.ref x_NoWorld.C) = some false
  kit_NoText__NoText : PySem.W.kitOne K (.ref x_NoText.C) (.ref x_NoText.C) = some true
  kit_NoStep__NoProgram : PySem.W.kitOne K (.ref x_NoStep.C) (.ref x_NoProgram.C) = some false
  kit_NoStep__NoRow : PySem.W.kitOne K (.ref x_NoStep.C) (.ref x_NoRow.C) = some false
  kit_NoStep__TooLong : PySem.W.kitOne K (.ref x_NoStep.C) (.ref x_TooLong.C) = some false
  kit_NoStep__NoWorld : PySem.W.kitOne K (.ref x_NoStep.C) (.ref x_NoWorld.C) = some false
  kit_NoStep__NoText : PySem.W.kitOne K (.ref x_NoStep.C) (.ref x_NoText.C) = some false
  kit_NoStep__NoStep : PySem.W.kitOne K (.ref x_NoStep.C) (.ref x_NoStep.C) = some true
  kit_NoCell__NoProgram : PySem.W.kitOne K (.ref x_NoCell.C) (.ref x_NoProgram.C) = some false
  kit_NoCell__NoRow : PySem.W.kitOne K (.ref x_NoCell.C) (.ref x_NoRow.C) = some false
  kit_NoCell__TooLong : PySem.W.kitOne K (.ref x_NoCell.C) (.ref x_TooLong.C) = some false
  kit_NoCell__NoWorld : PySem.W.kitOne K (.ref x_NoCell.C) (.ref x_NoWorld.C) = some false
  kit_NoCell__NoText : PySem.W.kitOne K (.ref x_NoCell.C) (.ref x_NoText.C) = some false
  kit_NoCell__NoStep : PySem.W.kitOne K (.ref x_NoCell.C) (.ref x_NoStep.C) = some false
  kit_NoCell__NoCell : PySem.W.kitOne K (.ref x_NoCell.C) (.ref x_NoCell.C) = some true
  kit_NoDoor__NoProgram : PySem.W.kitOne K (.ref x_NoDoor.C) (.ref x_NoProgram.C) = some false
  kit_NoDoor__NoRow : PySem.W.kitOne K (.ref x_NoDoor.C) (.ref x_NoRow.C) = some false
  kit_NoDoor__TooLong : PySem.W.kitOne K (.ref x_NoDoor.C) (.ref x_TooLong.C) = some false
  kit_NoDoor__NoWorld : PySem.W.kitOne K (.ref x_NoDoor.C) (.ref x_NoWorld.C) = some false
  kit_NoDoor__NoText : PySem.W.kitOne K (.ref x_NoDoor.C) (.ref x_NoText.C) = some false
  kit_NoDoor__NoStep : PySem.W.kitOne K (.ref x_NoDoor.C) (.ref x_NoStep.C) = some false
  kit_NoDoor__NoCell : PySem.W.kitOne K (.ref x_NoDoor.C) (.ref x_NoCell.C) = some false
  kit_NoDoor__NoDoor : PySem.W.kitOne K (.ref x_NoDoor.C) (.ref x_NoDoor.C) = some true
  kit_NoWord__NoProgram : PySem.W.kitOne K (.ref x_NoWord.C) (.ref x_NoProgram.C) = some false
  kit_NoWord__NoRow : PySem.W.kitOne K (.ref x_NoWord.C) (.ref x_NoRow.C) = some false
  kit_NoWord__TooLong : PySem.W.kitOne K (.ref x_NoWord.C) (.ref x_TooLong.C) = some false
  kit_NoWord__NoWorld : PySem.W.kitOne K (.ref x_NoWord.C) (.ref x_NoWorld.C) = some false
  kit_NoWord__NoText : PySem.W.kitOne K (.ref x_NoWord.C) (.ref x_NoText.C) = some false
  kit_NoWord__NoStep : PySem.W.kitOne K (.ref x_NoWord.C) (.ref x_NoStep.C) = some false
  kit_NoWord__NoCell : PySem.W.kitOne K (.ref x_NoWord.C) (.ref x_NoCell.C) = some false
  kit_NoWord__NoDoor : PySem.W.kitOne K (.ref x_NoWord.C) (.ref x_NoDoor.C) = some false
  kit_NoCell__NoDoor : PySem.W.kitOne K (.ref x_NoCell.C) (.ref x_NoDoor.C) = some false
  kit_NoCell__NoWord : PySem.W.kitOne K (.ref x_NoCell.C) (.ref x_NoWord.C) = some false
  kit_NoCell_T_ValueError : PySem.W.kitOne K (.ref x_NoCell.C) (.type "ValueError") = some true
  exm_NoCell__RunError : PySem.W.exmOne K (.ref x_NoCell.C) (.ref x_RunError.C) = some true
/-! ### the law's drawing -/
theorem line9 {n : Nat} (h : n ≤ 10000) : n ≤ sizeLine := by rw [sizeLine_eq]; omega
theorem line9' {n : Nat} (h : n ≤ 10000) : n < sizeLine := by rw [sizeLine_eq]; omega
def StAt (H : Hp) (st : Addr) : Prop := ∃ z : Int, H st = some (.lst [.int z]) ∧ 0 ≤ z ∧ z < 2147483629
theorem StAt.on {S : List Addr} {H H' : Hp} {st : Addr} (h : StAt H st) (c : Chg S H H') (n : st ∉ S) : StAt H' st := by
  obtain ⟨z, e, h1, h2⟩ := h
  exact ⟨z, c.keep e n, h1, h2⟩
theorem StAt.on0 {H H' : Hp} {st : Addr} (h : StAt H st) (c : Chg [] H H') : StAt H' st := h.on c (by simp)
theorem isNm_ok {z : Str} (h : isNm z = true) : PyData.strOk z = true := by
  simp only [isNm, Bool.and_eq_true, decide_eq_true_eq, List.all_eq_true] at h
  unfold PyData.strOk
  rw [← Array.all_toList, List.all_eq_true]
  intro c hc
  have := (h.2 c hc).2
  exact decide_eq_true (by omega)
theorem isNm_len {z : Str} (h : isNm z = true) : 1 ≤ z.length ∧ z.length ≤ 6 := by
  simp only [isNm, Bool.and_eq_true, decide_eq_true_eq] at h
  exact h.1
theorem abc_at : ∀ n : Fin 26, (Str.ofString "abcdefghijklmnopqrstuvwxyz").cps.toList[n.val]? = some (97 + n.val) := by decide +kernel
theorem abc_len : (Str.ofString "abcdefghijklmnopqrstuvwxyz").cps.toList.length = 26 := by decide +kernel
theorem abc_ix {i : Int} (h0 : 0 ≤ i) (h1 : i < 26) : atI (Str.ofString "abcdefghijklmnopqrstuvwxyz").cps.toList i = some (97 + i.toNat) := by
  have := abc_at ⟨i.toNat, by omega⟩
  unfold atI ixN
  rw [abc_len, if_pos h0, if_pos (by exact_mod_cast h1)]
  exact this
theorem abc_line : (Str.ofString "abcdefghijklmnopqrstuvwxyz").length ≤ sizeLine := line9 (by
  have : (Str.ofString "abcdefghijklmnopqrstuvwxyz").length = 26 := abc_len
  omega)
theorem isNm_one {c : Nat} (h0 : 97 ≤ c) (h1 : c ≤ 122) : isNm ⟨#[c]⟩ = true := by
  simp [isNm, Str.length, h0, h1]
theorem str1_inj {c d : Nat} (h : (⟨#[c]⟩ : Str) = ⟨#[d]⟩) : c = d := by
  have := congrArg (fun z : Str => z.cps.toList) h
  simpa using this
/-! promises -/
def sp_cell (K : PySem.W.Frag) : Sp := fun vs H Q _ => ∃ a ns k, vs = [.ref a, .int k] ∧ SqL K H a (List.map V.int ns) ∧ ns.length ≤ 63 ∧ 0 ≤ k ∧ ∀ i, Q (.int i) H
def sp_state : Sp := fun vs H Q _ => ∃ c k, vs = [.int c, .int k] ∧ ∀ st H', H st = none → Chg [] H H' → StAt H' st → Q (.ref st) H'
def sp_next : Sp := fun vs H Q _ => ∃ st n, vs = [.ref st, .int n] ∧ StAt H st ∧ 1 ≤ n ∧ ∀ i H', 0 ≤ i → i < n → Chg [st] H H' → StAt H' st → Q (.int i) H'
def sp_names : Sp := fun vs H Q _ => ∃ st n, vs = [.ref st, .int n] ∧ StAt H st ∧ 0 ≤ n ∧ n ≤ 26 ∧
  ∀ (a : Addr) (zs : List Str) H', H a = none → Chg [st] H H' → StAt H' st → H' a = some (.lst (zs.map V.str)) → (zs.length : Int) = n → (∀ z ∈ zs, isNm z = true) → zs.Nodup → Q (.ref a) H'
theorem StAt.ne_strs {H : Hp} {st b : Addr} {zs : List Str} (h : StAt H st) (hb : H b = some (.lst (zs.map V.str))) : b ≠ st := by
  rintro rfl
  obtain ⟨z, e, _⟩ := h
  rw [hb] at e
  cases zs with
  | nil => cases e
  | cons y zs => cases e
def sp_law (K : PySem.W.Frag) : Sp := fun vs H Q _ => ∃ a ns, vs = [.ref a] ∧ SqL K H a (List.map V.int ns) ∧ ns.length ≤ 63 ∧ ∀ H', Q (.bl true) H'
theorem sp_law_start {K : PySem.W.Frag} {H : Hp} {a : Addr} {ns : List Int} {E : XK} (hl : ns.length ≤ 63) (_ : Only H) (hS : SqL K H a (ns.map V.int)) : sp_law K [.ref a] H (fun v _ => v = .bl true) E :=
  ⟨a, ns, rfl, hS, hl, fun _ => rfl⟩
/-! ### values, drawn -/
def sp_value (n : Nat) : Sp := fun vs H Q _ => ∃ st dp b l bs ls, vs = [.ref st, .int dp, .ref b, .ref l] ∧ StAt H st ∧ 1 ≤ dp ∧ dp ≤ n ∧ H b = some (.lst (List.map V.str bs)) ∧ H l = some (.lst (List.map V.str ls)) ∧ bs.length ≤ 26 ∧ ls.length ≤ 26 ∧ (∀ z ∈ bs, isNm z = true) ∧ (∀ z ∈ ls, isNm z = true) ∧
  ∀ (v : V) (u : Vl) H', Chg [st] H H' → StAt H' st → Rp H' v u.d → u.ok (fun z => z ∈ bs) (fun z => z ∈ ls) → (u.dp : Int) ≤ dp → Q v H'
theorem wOk {w : Str} (h : w ∈ ([("number" : Str), "box", "size", "not", "item", "set", "push", "pop", "put", "ask", "tell", "fail", "call", "return", "if", "while", "try", "def", "plus", "minus", "less", "same", "times", "over", "rest", "door", "a", "zz"] : List Str)) : PyData.strOk w = true := wordsOk w h
/-! ### rows, drawn -/
def OneI (H : Hp) (a : Addr) : Prop := ∃ z : Int, H a = some (.lst [.int z])
theorem StAt.one {H : Hp} {st : Addr} (h : StAt H st) : OneI H st := by obtain ⟨z, e, _⟩ := h; exact ⟨z, e⟩
theorem OneI.ne_strs {H : Hp} {st b : Addr} {zs : List Str} (h : OneI H st) (hb : H b = some (.lst (zs.map V.str))) : b ≠ st := by
  rintro rfl
  obtain ⟨z, e⟩ := h
  rw [hb] at e
  cases zs with
  | nil => cases e
  | cons y zs => cases e
theorem OneI.ne_refs {H : Hp} {st b : Addr} {xs : List V} (h : OneI H st) (hb : H b = some (.lst xs)) (hx : ∀ x ∈ xs, ∃ a, x = V.ref a) : b ≠ st := by
  rintro rfl
  obtain ⟨z, e⟩ := h
  rw [hb] at e
  cases xs with
  | nil => cases e
  | cons y xs =>
    obtain ⟨a, rfl⟩ := hx y List.mem_cons_self
    cases e
theorem Cls_refs {H : Hp} {xs : List V} {ks : List (List Key)} (h : Cls H xs ks) : ∀ x ∈ xs, ∃ a, x = V.ref a := fun x m => by
  obtain ⟨t, _, e, _⟩ := h.mem m
  exact ⟨t, e⟩
/-- the names in the drawing of rows -/
structure Nm where
  bs : List Str
  ls : List Str
  fs : List (Str × Int)
  ds : List Str
  ins : Bool
structure Nm.fine (m : Nm) : Prop where
  lb : m.bs.length ≤ 26
  ll : m.ls.length ≤ 26
  lf : m.fs.length ≤ 26
  ld : m.ds.length ≤ 26
  nb : ∀ z ∈ m.bs, isNm z = true
  nl : ∀ z ∈ m.ls, isNm z = true
  nf : ∀ p ∈ m.fs, isNm p.1 = true ∧ 0 ≤ p.2 ∧ p.2 ≤ 3
  nd : ∀ z ∈ m.ds, isNm z = true
def Nm.nms (m : Nm) : Nms := ⟨fun z => z ∈ m.bs, fun z => z ∈ m.ls, fun f n => (f, (n : Int)) ∈ m.fs, fun z => z ∈ m.ds, m.ins⟩
theorem nm_of {m : Nm} (h : m.fine) : m.nms.nm := ⟨h.nb, h.nl, fun z n hz => (h.nf _ hz).1, h.nd⟩
def fK (p : Str × Int) : List Key := [.inr p.1, .inl p.2]
structure NmIn (H : Hp) (m : Nm) (b l f d : Addr) : Prop where
  b : H b = some (.lst (List.map V.str m.bs))
  l : H l = some (.lst (List.map V.str m.ls))
  f : ∃ ft, H f = some (.lst ft) ∧ Cls H ft (m.fs.map fK)
  d : H d = some (.lst (List.map V.str m.ds))
theorem NmIn.on {S : List Addr} {H H' : Hp} {m : Nm} {b l f d : Addr} (h : NmIn H m b l f d) (c : Chg S H H') (hS : ∀ s ∈ S, OneI H s) : NmIn H' m b l f d := by
  obtain ⟨h1, h2, ⟨ft, h3, h4⟩, h5⟩ := h
  exact ⟨c.keep h1 fun z => (hS _ z).ne_strs h1 rfl, c.keep h2 fun z => (hS _ z).ne_strs h2 rfl, ⟨ft, c.keep h3 fun z => (hS _ z).ne_refs h3 (Cls_refs h4) rfl, h4.on c⟩, c.keep h5 fun z => (hS _ z).ne_strs h5 rfl⟩
def NmAt (H : Hp) (nm : Addr) (m : Nm) : Prop := ∃ b l f d, H nm = some (.tup [.ref b, .ref l, .ref f, .ref d, .bl m.ins]) ∧ NmIn H m b l f d
theorem NmAt.on {S : List Addr} {H H' : Hp} {nm : Addr} {m : Nm} (h : NmAt H nm m) (c : Chg S H H') (hS : ∀ s ∈ S, OneI H s) : NmAt H' nm m := by
  obtain ⟨b, l, f, d, e, h⟩ := h
  exact ⟨b, l, f, d, c.tup e, h.on c hS⟩
def sp_plain : Sp := fun vs H Q _ => ∃ st nm m, vs = [.ref st, .ref nm] ∧ StAt H st ∧ NmAt H nm m ∧ m.fine ∧
  ∀ (v : V) (r : Rw) H', Chg [st] H H' → StAt H' st → Rp H' v r.d → r.ok m.nms → r.dpt = 1 → Q v H'
def LfAt (H : Hp) (lf : Addr) (z : Int) : Prop := H lf = some (.lst [.int z])
def sp_rows (n : Nat) : Sp := fun vs H Q _ => ∃ st nm dp mo lf m z, vs = [.ref st, .ref nm, .int dp, .int mo, .ref lf] ∧ StAt H st ∧ NmAt H nm m ∧ m.fine ∧ LfAt H lf z ∧ lf ≠ st ∧ 1 ≤ dp ∧ dp ≤ 4 ∧ dp + n = 5 ∧ 0 ≤ mo ∧ mo ≤ 6 ∧ z ≤ 56 ∧
  ∀ (v : V) (rs : List Rw) z' H', Chg [st, lf] H H' → StAt H' st → LfAt H' lf z' → min z (2 * dp - 6) ≤ z' → z' ≤ z → (Rw.cnts rs : Int) ≤ z - z' → Rp H' v (.tup (Rw.ds rs)) → Rw.oks m.nms rs → (Rw.dpts rs : Int) ≤ 5 - dp → Q v H'
def sp_program : Sp := fun vs H Q _ => ∃ st mo, vs = [.ref st, .int mo] ∧ StAt H st ∧ 0 ≤ mo ∧ mo ≤ 6 ∧ ∀ (v : V) (p : Pg) H', Chg [st] H H' → StAt H' st → Rp H' v p.d → PgOk p → Q v H'
theorem StAt.ne_none {H : Hp} {st p : Addr} (h : StAt H st) (n : H p = none) : p ≠ st := by
  rintro rfl; obtain ⟨z, e, _⟩ := h; rw [n] at e; cases e
/-! ### cells and their words -/
theorem neS {a b : String} (h : a ≠ b) : decide (Str.ofString a = Str.ofString b) = false := decide_eq_false fun z => h (ofString_inj.mp z)
theorem eqS (a : String) : decide (Str.ofString a = Str.ofString a) = true := decide_eq_true rfl
theorem flat_take' {α β : Type} (f : α → List β) (l : List α) (i : Nat) : ((l.take i).flatMap f).length ≤ (l.flatMap f).length := by
  have := congrArg (fun z => (z.flatMap f).length) (List.take_append_drop i l)
  simp only [List.flatMap_append, List.length_append] at this
  omega
section
variable {H : Hp} {Q : VK} {K : PySem.W.Frag}
theorem v_in_ls {z : Str} {a : Addr} (zs : List Str) (h : H a = some (.lst (zs.map V.str))) (q : Q (.bl (decide (z ∈ zs))) H) : uIn K false (.str z) (.ref a) H Q :=
  v_in_l (SqL.of h) rfl (RT.flat_strs zs) (by rw [inV_strs]; exact q)
theorem v_appS {a : Addr} {xs : List Str} {y : Str} (h : H a = some (.lst (xs.map V.str))) (hl : xs.length ≤ 10000) (q : ∀ H', Chg [a] H H' → H' a = some (.lst ((xs ++ [y]).map V.str)) → Q .non H') : rAppend (.ref a) [.str y] H Q :=
  v_append h (by rw [List.length_map]; exact line9' hl) fun H' c e => q H' c (by rw [List.map_append]; exact e)
end
def atS : Str := Str.ofString "@"
theorem at_tl : TL.tl atS = [64] := by decide +kernel
def ownsL (p : Pg) : List Str := p.fs.flatMap fun f => f.2.1 ++ f.2.2.1
def digs : List Nat := [49, 50, 51, 52, 53, 54, 55]
def cellW (p : Pg) (w : Str) : Option (List Key) :=
  if (Txt.partition w atS).2.1 = Str.ofString "" then
    (if (Txt.partition w atS).1 ∈ p.bx.map (·.1) then some [.inr "box", .inr (Txt.partition w atS).1]
    else if (Txt.partition w atS).1 ∈ p.ls.map (·.1) then some [.inr "list", .inr (Txt.partition w atS).1] else none)
  else match (Txt.partition w atS).2.2.cps.toList with
    | [c] => if c ∈ digs ∧ (Txt.partition w atS).1 ∈ ownsL p then some [.inr "own", .inl ((c : Int) - 48), .inr (Txt.partition w atS).1] else none
    | _ => none
abbrev Cell := List Key
def ownC (n : Str) (k : Nat) : Str × Cell := (n ++ atS ++ iS ((k : Int) + 1), [.inr "own", .inl ((k : Int) + 1), .inr n])
def seqC (p : Pg) : List (Str × Cell) :=
  (p.bx.map fun b => (b.1, [.inr "box", .inr b.1])) ++ (p.ls.map fun l => (l.1, [.inr "list", .inr l.1])) ++ (p.fs.flatMap fun f => (f.2.1 ++ f.2.2.1).flatMap fun n => (List.range 7).map (ownC n))
/-- the word of a cell -/
def wordC : Cell → Str
  | [_, .inr n] => n
  | [_, .inl d, .inr n] => n ++ atS ++ iS d
  | _ => atS
theorem nm_no_at {z : Str} (h : isNm z = true) : 64 ∉ TL.tl z := fun m => by
  simp only [isNm, Bool.and_eq_true, decide_eq_true_eq, List.all_eq_true] at h
  have := (h.2 64 m).1
  omega
theorem part_nm {z : Str} (h : 64 ∉ TL.tl z) : Txt.partition z atS = (z, Str.empty, Str.empty) := TL.partition_none at_tl h
theorem part_own {n d : Str} (h : 64 ∉ TL.tl n) : Txt.partition (n ++ atS ++ d) atS = (n, atS, d) := TL.partition_app at_tl h
theorem part_cases (w : Str) : (64 ∉ TL.tl w ∧ Txt.partition w atS = (w, Str.empty, Str.empty)) ∨ ∃ a b : Str, w = a ++ atS ++ b ∧ Txt.partition w atS = (a, atS, b) := by
  by_cases h : 64 ∈ TL.tl w
  · obtain ⟨as, bs, e, hn⟩ := List.eq_append_cons_of_mem h
    refine .inr ⟨⟨as.toArray⟩, ⟨bs.toArray⟩, ?_, ?_⟩
    · have : ∀ x y : Str, x.cps.toList = y.cps.toList → x = y := fun x y h => by cases x; cases y; simp only [Str.mk.injEq]; exact Array.toList_inj.mp h
      apply this
      show TL.tl w = TL.tl ((⟨as.toArray⟩ : Str) ++ atS ++ ⟨bs.toArray⟩)
      rw [TL.tl_append, TL.tl_append, at_tl, e]
      show as ++ 64 :: bs = (as.toArray.toList ++ [64]) ++ bs.toArray.toList
      simp
    · have e2 : w = (⟨as.toArray⟩ : Str) ++ atS ++ ⟨bs.toArray⟩ := by
        have : ∀ x y : Str, x.cps.toList = y.cps.toList → x = y := fun x y h => by cases x; cases y; simp only [Str.mk.injEq]; exact Array.toList_inj.mp h
        apply this
        show TL.tl w = TL.tl ((⟨as.toArray⟩ : Str) ++ atS ++ ⟨bs.toArray⟩)
        rw [TL.tl_append, TL.tl_append, at_tl, e]
        show as ++ 64 :: bs = (as.toArray.toList ++ [64]) ++ bs.toArray.toList
        simp
      rw [e2]
      refine part_own ?_
      show 64 ∉ as.toArray.toList
      simpa using hn
  · exact .inl ⟨h, part_nm h⟩
theorem empty_str : Str.empty = Str.ofString "" := rfl
theorem at_ne : atS ≠ Str.ofString "" := by unfold atS; rw [Ne, ofString_inj]; decide
theorem iS_dig : ∀ k : Nat, k < 7 → (iS ((k : Int) + 1)).cps.toList = [49 + k] := by
  intro k hk
  have : k = 0 ∨ k = 1 ∨ k = 2 ∨ k = 3 ∨ k = 4 ∨ k = 5 ∨ k = 6 := by omega
  rcases this with rfl | rfl | rfl | rfl | rfl | rfl | rfl <;> decide +kernel
theorem cell_in {p : Pg} (hb : ∀ b ∈ p.bx, isNm b.1 = true) (hl : ∀ l ∈ p.ls, isNm l.1 = true) (ho : ∀ n ∈ ownsL p, isNm n = true) (nd : (p.bx.map (·.1) ++ p.ls.map (·.1)).Nodup) {w : Str} {c : Cell} (h : (w, c) ∈ seqC p) : cellW p w = some c ∧ wordC c = w := by
  unfold seqC at h
  rcases List.mem_append.mp h with h | h
  · rcases List.mem_append.mp h with h | h
    · obtain ⟨b, hbm, e⟩ := List.mem_map.mp h
      cases e
      have hp := part_nm (nm_no_at (hb b hbm))
      refine ⟨?_, rfl⟩
      unfold cellW
      rw [hp, if_pos empty_str, if_pos (List.mem_map_of_mem (f := fun x : Str × Int => x.1) hbm)]
    · obtain ⟨l, hlm, e⟩ := List.mem_map.mp h
      cases e
      have hp := part_nm (nm_no_at (hl l hlm))
      have hm := List.mem_map_of_mem (f := fun x : Str × List Int => x.1) hlm
      refine ⟨?_, rfl⟩
      unfold cellW
      rw [hp, if_pos empty_str, if_neg (fun m => (List.nodup_append.mp nd).2.2 _ m _ hm rfl), if_pos hm]
  · obtain ⟨f, hf, h⟩ := List.mem_flatMap.mp h
    obtain ⟨n, hn, h⟩ := List.mem_flatMap.mp h
    obtain ⟨k, hk, e⟩ := List.mem_map.mp h
    have hk := List.mem_range.mp hk
    cases e
    have hno : n ∈ ownsL p := List.mem_flatMap.mpr ⟨f, hf, hn⟩
    have hp := part_own (d := iS ((k : Int) + 1)) (nm_no_at (ho n hno))
    refine ⟨?_, rfl⟩
    unfold cellW
    rw [hp, if_neg at_ne]
    simp only [iS_dig k hk]
    rw [if_pos ⟨by simp only [digs, List.mem_cons, List.not_mem_nil, or_false]; omega, hno⟩]
    congr 3
    congr 1
    push_cast
    omega
theorem cell_out {p : Pg} {w : Str} {c : Cell} (h : cellW p w = some c) : (w, c) ∈ seqC p := by
  unfold cellW at h
  unfold seqC
  rcases part_cases w with ⟨_, hp⟩ | ⟨a, b, e, hp⟩
  · rw [hp, if_pos empty_str] at h
    simp only at h
    split at h
    · rename_i m
      cases h
      obtain ⟨x, hx, e⟩ := List.mem_map.mp m
      refine List.mem_append.mpr (.inl (List.mem_append.mpr (.inl (List.mem_map.mpr ⟨x, hx, ?_⟩))))
      rw [e]
    · split at h
      · rename_i m
        cases h
        obtain ⟨x, hx, e⟩ := List.mem_map.mp m
        refine List.mem_append.mpr (.inl (List.mem_append.mpr (.inr (List.mem_map.mpr ⟨x, hx, ?_⟩))))
        rw [e]
      · cases h
  · rw [hp, if_neg at_ne] at h
    simp only at h
    split at h
    · rename_i d hd
      split at h
      · rename_i hh
        cases h
        obtain ⟨h1, h2⟩ := hh
        obtain ⟨f, hf, hn⟩ := List.mem_flatMap.mp h2
        refine List.mem_append.mpr (.inr (List.mem_flatMap.mpr ⟨f, hf, List.mem_flatMap.mpr ⟨a, hn, List.mem_map.mpr ⟨d - 49, ?_, ?_⟩⟩⟩))
        · simp only [digs, List.mem_cons, List.not_mem_nil, or_false] at h1
          exact List.mem_range.mpr (by omega)
        · have hd7 : 49 ≤ d ∧ d - 49 < 7 := by simp only [digs, List.mem_cons, List.not_mem_nil, or_false] at h1; omega
          have hb : b = iS (((d - 49 : Nat) : Int) + 1) := by
            have e1 := iS_dig (d - 49) hd7.2
            have : ∀ x y : Str, x.cps.toList = y.cps.toList → x = y := fun x y h => by cases x; cases y; simp only [Str.mk.injEq]; exact Array.toList_inj.mp h
            apply this
            rw [e1, hd]
            congr 1
            omega
          unfold ownC
          rw [e, hb]
          congr 3
          congr 1
          omega
      · cases h
    · cases h
theorem cell_len {p : Pg} (hb : ∀ b ∈ p.bx, isNm b.1 = true) (hl : ∀ l ∈ p.ls, isNm l.1 = true) (ho : ∀ n ∈ ownsL p, isNm n = true) {w : Str} {c : Cell} (h : (w, c) ∈ seqC p) : w.length ≤ 20 := by
  unfold seqC at h
  rcases List.mem_append.mp h with h | h
  · rcases List.mem_append.mp h with h | h
    · obtain ⟨b, hbm, e⟩ := List.mem_map.mp h
      cases e
      have := (isNm_len (hb b hbm)).2; show b.1.length ≤ 20; omega
    · obtain ⟨l, hlm, e⟩ := List.mem_map.mp h
      cases e
      have := (isNm_len (hl l hlm)).2; show l.1.length ≤ 20; omega
  · obtain ⟨f, hf, h⟩ := List.mem_flatMap.mp h
    obtain ⟨n, hn, h⟩ := List.mem_flatMap.mp h
    obtain ⟨k, hk, e⟩ := List.mem_map.mp h
    have hk := List.mem_range.mp hk
    cases e
    have := (isNm_len (ho n (List.mem_flatMap.mpr ⟨f, hf, hn⟩))).2
    have := iS_len (i := (k : Int) + 1) (by omega) (by omega)
    rw [sla, sla]; show n.length + 1 + _ ≤ 20; omega
structure PgC (p : Pg) : Prop where
  lb : p.bx.length ≤ 3
  ll : p.ls.length ≤ 3
  lf : p.fs.length ≤ 4
  nb : ∀ b ∈ p.bx, isNm b.1 = true
  nl : ∀ l ∈ p.ls, isNm l.1 = true
  nf : ∀ f ∈ p.fs, isNm f.1 = true ∧ f.2.1.length ≤ 3 ∧ f.2.2.1.length ≤ 3 ∧ (∀ z ∈ f.2.1, isNm z = true) ∧ (∀ z ∈ f.2.2.1, isNm z = true)
  nd : (p.bx.map (·.1) ++ p.ls.map (·.1)).Nodup
theorem PgC.no {p : Pg} (h : PgC p) : ∀ n ∈ ownsL p, isNm n = true := fun n hn => by
  obtain ⟨f, hf, hn⟩ := List.mem_flatMap.mp hn
  obtain ⟨_, _, _, h1, h2⟩ := h.nf f hf
  exact (List.mem_append.mp hn).elim (h1 n) (h2 n)
theorem owns_len : ∀ {fs : List Fn}, (∀ f ∈ fs, f.2.1.length ≤ 3 ∧ f.2.2.1.length ≤ 3) → (fs.flatMap fun f => f.2.1 ++ f.2.2.1).length ≤ 6 * fs.length
  | [], _ => Nat.zero_le _
  | f :: fs, h => by
    have h1 := h f List.mem_cons_self
    have h2 := owns_len (fs := fs) fun g hg => h g (List.mem_cons_of_mem _ hg)
    rw [List.flatMap_cons, List.length_append, List.length_append, List.length_cons]; omega
theorem pgc_of {p : Pg} (h : PgOk p) : PgC p := ⟨h.lb, h.ll, h.lf, fun b hb => (h.nb b hb).1, fun l hl => (h.nl l hl).1, fun f hf => by
  obtain ⟨a1, a2, a3, a4, a5, _⟩ := h.nf f hf
  exact ⟨a1, a2, a3, a4, a5⟩, h.nd⟩
def sp_own : Sp := fun vs H Q _ => ∃ (v : V) (p : Pg), vs = [v] ∧ Rp H v p.d ∧ PgC p ∧ ∀ (q : Addr) H', H q = none → Chg [] H H' → H' q = some (.lst ((ownsL p).map V.str)) → Q (.ref q) H'
def sp_cellof (NC : Addr) : Sp := fun vs H Q E => ∃ (v : V) (p : Pg) (w : Str), vs = [v, .str w] ∧ Rp H v p.d ∧ PgC p ∧ w.length ≤ 1000 ∧ (∀ (c : Cell) (t : Addr) H', cellW p w = some c → Chg [] H H' → H' t = some (.tup (c.map kV)) → Q (.ref t) H') ∧ (cellW p w = none → ∀ H', Chg [] H H' → E (.ref NC) none H')
def sp_cword : Sp := fun vs H Q _ => ∃ (t : Addr) (p : Pg) (w : Str) (c : Cell), vs = [.ref t] ∧ H t = some (.tup (c.map kV)) ∧ PgC p ∧ (w, c) ∈ seqC p ∧ Q (.str (wordC c)) H
theorem part_len (w : Str) : (Txt.partition w atS).1.length ≤ w.length ∧ (Txt.partition w atS).2.2.length ≤ w.length := by
  rcases part_cases w with ⟨_, hp⟩ | ⟨a, b, e, hp⟩
  · rw [hp]; exact ⟨Nat.le_refl _, Nat.zero_le _⟩
  · rw [hp]
    have := congrArg Str.length e
    rw [sla, sla] at this
    exact ⟨by show a.length ≤ _; omega, by show b.length ≤ _; omega⟩
theorem len_one {z : Str} (h : z.length = 1) : ∃ c, z = ⟨#[c]⟩ := by
  have h2 : z.cps.toList.length = 1 := by rw [Array.length_toList]; exact h
  obtain ⟨c, hc⟩ := List.length_eq_one_iff.mp h2
  refine ⟨c, ?_⟩
  cases z
  simp only [Str.mk.injEq]
  exact Array.toList_inj.mp (by simpa using hc)
theorem dig_int : ∀ c ∈ digs, PySem.intText? ⟨#[c]⟩ = some ((c : Int) - 48) := by decide +kernel
theorem depths_eq : (Str.ofString "1234567").cps.toList = digs := by decide +kernel
theorem seqC_form {p : Pg} {w : Str} {c : Cell} (h : (w, c) ∈ seqC p) : (∃ n, c = [.inr "box", .inr n]) ∨ (∃ n, c = [.inr "list", .inr n]) ∨ ∃ (n : Str) (k : Nat), k < 7 ∧ n ∈ ownsL p ∧ c = [.inr "own", .inl ((k : Int) + 1), .inr n] := by
  unfold seqC at h
  rcases List.mem_append.mp h with h | h
  · rcases List.mem_append.mp h with h | h
    · obtain ⟨b, hbm, e⟩ := List.mem_map.mp h
      cases e; exact .inl ⟨_, rfl⟩
    · obtain ⟨l, hlm, e⟩ := List.mem_map.mp h
      cases e; exact .inr (.inl ⟨_, rfl⟩)
  · obtain ⟨f, hf, h⟩ := List.mem_flatMap.mp h
    obtain ⟨n, hn, h⟩ := List.mem_flatMap.mp h
    obtain ⟨k, hk, e⟩ := List.mem_map.mp h
    cases e
    exact .inr (.inr ⟨n, k, List.mem_range.mp hk, List.mem_flatMap.mpr ⟨f, hf, hn⟩, rfl⟩)
/-! the refusals' words -/
def clsN (C0 C1 C2 C3 C4 C5 C6 C7 C8 : Addr) : Nat → Addr
  | 0 => C0 | 1 => C1 | 2 => C2 | 3 => C3 | 4 => C4 | 5 => C5 | 6 => C6 | 7 => C7 | _ => C8
def wordN : Nat → Str
  | 0 => "program" | 1 => "row" | 2 => "long" | 3 => "world" | 4 => "text" | 5 => "step" | 6 => "cell" | 7 => "door" | _ => "word"
def sp_wordof (C0 C1 C2 C3 C4 C5 C6 C7 C8 : Addr) : Sp := fun vs H Q _ => ∃ (a : Addr) (k : Nat), vs = [.ref a] ∧ k < 9 ∧ H a = some (ExO (.ref (clsN C0 C1 C2 C3 C4 C5 C6 C7 C8 k)) a) ∧ Q (.str (wordN k)) H
def sp_class (NC : Addr) : SpP := fun a cls d vs H Q E => vs = [.ref a] ∧ cls = .ref NC ∧ d = none ∧ ∀ H', Chg [] H H' → Q (.str (Str.ofString "cell")) H'
/-- the dict of words -/
def DueAt (H : Hp) (d : Addr) (s : List (Str × Cell)) : Prop := ∃ kvs : List (Key × V), H d = some (.dK kvs) ∧ kvs.length ≤ s.length ∧
  (∀ kv ∈ kvs, ∃ (w : Str) (c : Cell) (t : Addr), kv.1 = .inr w ∧ kv.2 = .ref t ∧ H t = some (.tup (c.map kV)) ∧ (w, c) ∈ s) ∧ ∀ wc ∈ s, (valV kvs (.inr wc.1)).isSome = true
theorem putK_mem {κ : Type} [DecidableEq κ] {kvs : List (κ × V)} {k : κ} {v : V} {kv : κ × V} (h : kv ∈ putK kvs k v) : kv ∈ kvs ∨ kv = (k, v) := by
  unfold putK at h
  split at h
  · obtain ⟨x, hx, e⟩ := List.mem_map.mp h
    by_cases hk : x.1 = k
    · rw [if_pos hk] at e; right; rw [← e, hk]
    · rw [if_neg hk] at e; left; rw [← e]; exact hx
  · rcases List.mem_append.mp h with h | h
    · exact .inl h
    · rw [List.mem_singleton] at h; exact .inr h
theorem DueAt.nil {H : Hp} {d : Addr} (h : H d = some (.dK [])) : DueAt H d [] := ⟨[], h, Nat.le_refl _, by simp, by simp⟩
theorem DueAt.on {H H' : Hp} {d : Addr} {s : List (Str × Cell)} {S : List Addr} (h : DueAt H d s) (c : Chg S H H') (n : d ∉ S) : DueAt H' d s := by
  obtain ⟨kvs, h1, h2, h3, h4⟩ := h
  refine ⟨kvs, c.keep h1 n, h2, fun kv hkv => ?_, h4⟩
  obtain ⟨w, c', t, e1, e2, e3, e4⟩ := h3 kv hkv
  exact ⟨w, c', t, e1, e2, c.tup e3, e4⟩
section
variable {H : Hp} {Q : Hp → Prop} {K : PySem.W.Frag}
theorem v_due {d t : Addr} {s : List (Str × Cell)} {w : Str} {c : Cell} (h : DueAt H d s) (ht : H t = some (.tup (c.map kV))) (hl : s.length ≤ 10000) (q : ∀ H', Chg [d] H H' → DueAt H' d (s ++ [(w, c)]) → Q H') : uSet (.ref d) (.str w) (.ref t) H Q := by
  obtain ⟨kvs, h1, h2, h3, h4⟩ := h
  refine v_set_d (k := .inr w) h1 rfl (line9' (by omega)) fun H' c' h' => q H' c' ⟨_, h', ?_, fun kv hkv => ?_, fun wc hwc => ?_⟩
  · have := length_putK kvs (.inr w : Key) (V.ref t)
    rw [List.length_append, List.length_singleton]; omega
  · rcases putK_mem hkv with m | rfl
    · obtain ⟨w', c'', t', e1, e2, e3, e4⟩ := h3 kv m
      exact ⟨w', c'', t', e1, e2, c'.tup e3, List.mem_append.mpr (.inl e4)⟩
    · exact ⟨w, c, t, rfl, rfl, c'.tup ht, by simp⟩
  · rw [valV_put]
    split
    · rfl
    · rename_i hne
      rcases List.mem_append.mp hwc with m | m
      · exact h4 wc m
      · rw [List.mem_singleton] at m; subst m; exact absurd rfl hne
end
def sp_lcells : Sp := fun vs H Q _ => ∃ (v : V) (p : Pg), vs = [v] ∧ Rp H v p.d ∧ PgC p ∧ ∀ (d : Addr) H', H d = none → Chg [] H H' → DueAt H' d (seqC p) → Q (.ref d) H'
theorem split_head (w : Str) : ∃ (h : Str) (r : List Str), Txt.split w atS = h :: r ∧ h.length ≤ w.length := by
  have hs := TL.split_spl w atS (by rw [at_tl]; simp) (TL.kind_ok (by decide +kernel))
  rw [at_tl] at hs
  by_cases h : 64 ∈ TL.tl w
  · obtain ⟨as, bs, e, hn⟩ := List.eq_append_cons_of_mem h
    have et : TL.tl w = as ++ ([64] ++ bs) := by rw [e]; rfl
    rw [et, TL.spl_part1 hn, List.nil_append] at hs
    cases hc : Txt.split w atS with
    | nil => rw [hc] at hs; cases hs
    | cons h r =>
      rw [hc, List.map_cons] at hs
      have e1 := congrArg List.length (List.cons.inj hs).1
      have e2 := congrArg List.length e
      rw [List.length_append] at e2
      rw [← TL.len_tl] at e1 e2
      exact ⟨h, r, rfl, by omega⟩
  · rw [TL.spl_last1 h, List.nil_append] at hs
    exact ⟨w, [], TL.map_tl_inj hs, Nat.le_refl _⟩
def sp_near : Sp := fun vs H Q _ => ∃ (v : V) (p : Pg) (b st : Addr) (ws : List Str), vs = [v, .ref b, .ref st] ∧ Rp H v p.d ∧ PgC p ∧ H b = some (.lst (ws.map V.str)) ∧ ws.length ≤ 1000 ∧ (∀ w ∈ ws, w.length ≤ 20) ∧ StAt H st ∧
  ∀ (w : Str) H', w.length ≤ 1000 → Chg [st] H H' → StAt H' st → Q (.str w) H'
def sp_told (NC : Addr) : Sp := fun vs H Q _ => ∃ (v : V) (p : Pg) (w : Str), vs = [v, .str w] ∧ Rp H v p.d ∧ PgC p ∧ w.length ≤ 1000 ∧ (∀ (c : Cell) (t : Addr) H', cellW p w = some c → Chg [] H H' → H' t = some (.tup (c.map kV)) → Q (.ref t) H') ∧ (cellW p w = none → ∀ H', Chg [] H H' → Q (.str (Str.ofString "cell")) H')
def sp_lright : Sp := fun vs H Q _ => ∃ (v : V) (p : Pg) (w : Str) (d : Addr), vs = [v, .str w, .ref d] ∧ Rp H v p.d ∧ PgC p ∧ w.length ≤ 1000 ∧ DueAt H d (seqC p) ∧ ∀ H', Chg [] H H' → Q (.bl true) H'
theorem seqC_len {p : Pg} (hp : PgC p) : (seqC p).length ≤ 200 := by
  have h1 : ∀ fs : List Fn, (∀ f ∈ fs, f.2.1.length ≤ 3 ∧ f.2.2.1.length ≤ 3) → (fs.flatMap fun f => (f.2.1 ++ f.2.2.1).flatMap fun n => (List.range 7).map (ownC n)).length ≤ 42 * fs.length := fun fs h => by
    induction fs with
    | nil => exact Nat.zero_le _
    | cons f fs ih =>
      have a1 := h f List.mem_cons_self
      have a2 := ih fun g hg => h g (List.mem_cons_of_mem _ hg)
      have a3 : ∀ ns : List Str, (ns.flatMap fun n => (List.range 7).map (ownC n)).length = 7 * ns.length := fun ns => by
        induction ns with
        | nil => rfl
        | cons n ns ih => rw [List.flatMap_cons, List.length_append, ih, List.length_map, List.length_range, List.length_cons]; omega
      have a4 := a3 (f.2.1 ++ f.2.2.1)
      rw [List.length_append] at a4
      rw [List.flatMap_cons, List.length_append, List.length_cons]
      show ((f.2.1 ++ f.2.2.1).flatMap _).length + _ ≤ _
      omega
  have h2 := h1 p.fs fun f hf => ⟨(hp.nf f hf).2.1, (hp.nf f hf).2.2.1⟩
  have := hp.lb; have := hp.ll; have := hp.lf
  unfold seqC
  rw [List.length_append, List.length_append, List.length_map, List.length_map]
  exact Nat.le_trans (Nat.add_le_add (Nat.le_refl _) h2) (by omega)
theorem mem_valV {κ : Type} [DecidableEq κ] {kvs : List (κ × V)} {k : κ} {v : V} (h : valV kvs k = some v) : (k, v) ∈ kvs := by
  unfold valV at h
  cases hf : kvs.find? fun kv => decide (kv.1 = k) with
  | none => rw [hf] at h; cases h
  | some x =>
    rw [hf] at h
    have h1 := List.mem_of_find?_eq_some hf
    have h2 : x.1 = k := by simpa using List.find?_some hf
    have h3 : x.2 = v := by simpa using h
    rw [← h2, ← h3]; exact h1
theorem cell_two {p : Pg} {w : Str} {c : Cell} (h : (w, c) ∈ seqC p) : ∃ y1 y2, c.map kV = (kV y1 :: kV y2 :: (c.map kV).drop 2) := by
  unfold seqC at h
  rcases List.mem_append.mp h with h | h
  · rcases List.mem_append.mp h with h | h
    · obtain ⟨b, hbm, e⟩ := List.mem_map.mp h
      cases e; exact ⟨_, _, rfl⟩
    · obtain ⟨b, hbm, e⟩ := List.mem_map.mp h
      cases e; exact ⟨_, _, rfl⟩
  · obtain ⟨f, hf, h⟩ := List.mem_flatMap.mp h
    obtain ⟨n, hn, h⟩ := List.mem_flatMap.mp h
    obtain ⟨k, hk, e⟩ := List.mem_map.mp h
    cases e; exact ⟨_, _, rfl⟩
theorem cell_keys {p : Pg} (hp : PgC p) {w : Str} {c : Cell} (h : (w, c) ∈ seqC p) : c.all keyOkB = true := by
  have one : ∀ {z : Str}, isNm z = true → keyOkB (.inr z) = true := fun h => isNm_ok h
  have b1 : keyOkB (.inr (Str.ofString "box")) = true := by decide +kernel
  have b2 : keyOkB (.inr (Str.ofString "list")) = true := by decide +kernel
  have b3 : keyOkB (.inr (Str.ofString "own")) = true := by decide +kernel
  unfold seqC at h
  rcases List.mem_append.mp h with h | h
  · rcases List.mem_append.mp h with h | h
    · obtain ⟨b, hbm, e⟩ := List.mem_map.mp h
      cases e
      simp only [List.all_cons, List.all_nil, Bool.and_true, Bool.and_eq_true]
      exact ⟨b1, one (hp.nb b hbm)⟩
    · obtain ⟨b, hbm, e⟩ := List.mem_map.mp h
      cases e
      simp only [List.all_cons, List.all_nil, Bool.and_true, Bool.and_eq_true]
      exact ⟨b2, one (hp.nl b hbm)⟩
  · obtain ⟨f, hf, h⟩ := List.mem_flatMap.mp h
    obtain ⟨n, hn, h⟩ := List.mem_flatMap.mp h
    obtain ⟨k, hk, e⟩ := List.mem_map.mp h
    cases e
    simp only [ownC, List.all_cons, List.all_nil, Bool.and_true, Bool.and_eq_true]
    exact ⟨b3, rfl, one (hp.no n (List.mem_flatMap.mpr ⟨f, hf, hn⟩))⟩
theorem word_ok : ∀ z ∈ (List.range 9).map wordN, PyData.strOk z = true := by
  intro z hz
  obtain ⟨k, hk, rfl⟩ := List.mem_map.mp hz
  have hk := List.mem_range.mp hk
  have : k = 0 ∨ k = 1 ∨ k = 2 ∨ k = 3 ∨ k = 4 ∨ k = 5 ∨ k = 6 ∨ k = 7 ∨ k = 8 := by omega
  rcases this with rfl | rfl | rfl | rfl | rfl | rfl | rfl | rfl | rfl <;> decide +kernel
theorem DueAt.words {H : Hp} {d : Addr} {s : List (Str × Cell)} (h : DueAt H d s) (hs : ∀ w c, (w, c) ∈ s → w.length ≤ 20) :
    ∃ ws : List Str, (∃ kvs : List (Key × V), H d = some (.dK kvs) ∧ kvs.map (fun kv => kV kv.1) = ws.map V.str) ∧ ws.length ≤ s.length ∧ ∀ w ∈ ws, w.length ≤ 20 := by
  obtain ⟨kvs, h1, h2, h3, _⟩ := h
  refine ⟨kvs.map (fun kv => match kv.1 with | .inr w => w | .inl _ => Str.empty), ⟨kvs, h1, ?_⟩, by rw [List.length_map]; exact h2, fun w hw => ?_⟩
  · rw [List.map_map]
    refine List.map_congr_left fun kv hkv => ?_
    obtain ⟨w, c, t, e1, _⟩ := h3 kv hkv
    obtain ⟨k, u⟩ := kv
    replace e1 : k = .inr w := e1
    subst e1; rfl
  · obtain ⟨kv, hkv, rfl⟩ := List.mem_map.mp hw
    obtain ⟨w, c, t, e1, _, _, e4⟩ := h3 kv hkv
    rw [e1]
    exact hs w c e4
theorem atI_1 {α : Type} (x y : α) (xs : List α) : atI (x :: y :: xs) 1 = some y := by
  unfold atI ixN
  rw [if_pos (by decide), if_pos (by simp only [List.length_cons]; omega)]
  rfl
section
variable {P : Program} {w : World} {K : PySem.W.Frag} {mg : Str → Option Value} {base : Heap}
abbrev s__law_cell_at : Stmt := topS 18
theorem sc__law_cell_at : FnScope ["_law_script", "_law_k"] ["_law_script", "_law_k"] (defScope s__law_cell_at) := ⟨rfl, rfl, rfl, by decide +kernel, rfl, by decide +kernel, by decide +kernel⟩
theorem ok__law_cell_at (T : Txt K mg) (D : DefAt K mg "_law_cell_at" s__law_cell_at) : Own P w K mg base "_law_cell_at" 1 ["_law_script", "_law_k"] (sp_cell K) := by
  refine own_of D (fun _ _ _ _ _ _ us hl => match us, hl with | [_, _], _ => rfl) (fnW_of (N := ["_law_script", "_law_k"]) sc__law_cell_at (fun vs H Q E h => ?_) (fun f cdv A outer s H vs Q E hr h => ?_))
  · obtain ⟨a, ns, k, rfl, _⟩ := h; rfl
  · have nd := sc__law_cell_at.nd
    have hu := L2H.roomH_of hr
    refine ⟨_, (pss_cons (ps_if (pt_cmpR op_ult (pv 1) (pe_callB (call_ulen (K := K)) (by rfl) T.n_len (by decide +kernel) (pa_cons (pv 0) pa_nil)) (nomark _))
      (pss_one (ps_ret (pe_ix (ix_u (K := K) hu) (pv 0) (pv 1) (fun _ _ => rfl)))) pss_nil)
      (pss_one (ps_ret pe_int))), ?_⟩
    clear nd
    obtain ⟨a, ns, k, rfl, hS, hl, k0, q⟩ := h
    walk_at "vs"
    refine v_len_l hS ?_
    walk_at "vs"
    refine v_iteD (fun hk => ?_) (fun hk => ?_)
    · walk_at "vs"
      refine v_ix_lany hS k0 hk fun v hv => ?_
      rw [List.getElem?_map] at hv
      cases e : ns[k.toNat]? with
      | none => rw [e] at hv; cases hv
      | some z => rw [e] at hv; cases hv; exact q z
    · walk_at "vs"
      exact q 0
abbrev s__law_state : Stmt := topS 19
theorem sc__law_state : FnScope ["_law_cell", "_law_k", "_law_drawn"] ["_law_cell", "_law_k"] (defScope s__law_state) := ⟨rfl, rfl, rfl, by decide +kernel, rfl, by decide +kernel, by decide +kernel⟩
theorem ok__law_state (T : Txt K mg) (D : DefAt K mg "_law_state" s__law_state) : Own P w K mg base "_law_state" 1 ["_law_cell", "_law_k"] (sp_state) := by
  refine own_of D (fun _ _ _ _ _ _ us hl => match us, hl with | [_, _], _ => rfl) (fnW_of (N := ["_law_cell", "_law_k", "_law_drawn"]) sc__law_state (fun vs H Q E h => ?_) (fun f cdv A outer s H vs Q E hr h => ?_))
  · obtain ⟨c, k, rfl, _⟩ := h; rfl
  · have nd := sc__law_state.nd
    have hu := L2H.roomH_of hr
    refine ⟨_, (pss_cons (ps_set (i := 2) nd rfl (by first | exact Or.inl rfl | exact Or.inr rfl) (pe_op op_mod (pe_op op_umul (pe_op (op_uadd (K := K)) (pe_op (op_uadd (K := K)) (pv 0) (pe_op op_umul pe_int (pv 1))) pe_int) pe_int) pe_int))
      (pss_one (ps_ret (pe_lst (pa_cons (pe_op op_mod (pe_op (op_uadd (K := K)) (pe_op (op_uadd (K := K)) (pe_op op_umul (pv 2) (pv 2)) (pe_op op_umul pe_int (pv 2))) (pv 1)) pe_int) pa_nil))))), ?_⟩
    clear nd
    obtain ⟨c, k, rfl, q⟩ := h
    walk_at "vs"
    refine v_newL (line9 (by show 1 ≤ 10000; decide)) fun st H1 n1 c1 h1 => ?_
    exact q st H1 n1 c1 ⟨_, h1, by omega, by omega⟩
abbrev s__law_next : Stmt := topS 20
theorem sc__law_next : FnScope ["_law_state_here", "_law_size", "_law_mixed"] ["_law_state_here", "_law_size"] (defScope s__law_next) := ⟨rfl, rfl, rfl, by decide +kernel, rfl, by decide +kernel, by decide +kernel⟩
theorem ok__law_next (T : Txt K mg) (D : DefAt K mg "_law_next" s__law_next) : Own P w K mg base "_law_next" 1 ["_law_state_here", "_law_size"] (sp_next) := by
  refine own_of D (fun _ _ _ _ _ _ us hl => match us, hl with | [_, _], _ => rfl) (fnW_of (N := ["_law_state_here", "_law_size", "_law_mixed"]) sc__law_next (fun vs H Q E h => ?_) (fun f cdv A outer s H vs Q E hr h => ?_))
  · obtain ⟨st, n, rfl, _⟩ := h; rfl
  · have nd := sc__law_next.nd
    have hu := L2H.roomH_of hr
    refine ⟨_, (pss_cons (ps_asg (pe_op op_mod (pe_op (op_uadd (K := K)) (pe_op op_umul (pe_ix (ix_u (K := K) hu) (pv 0) pe_int (fun _ _ => rfl)) pe_int) pe_int) pe_int) (pg_sub (pv 0) pe_int (set_u hu)))
      (pss_cons (ps_set (i := 2) nd rfl (by first | exact Or.inl rfl | exact Or.inr rfl) (pe_op op_mod (pe_op op_umul (pe_ix (ix_u (K := K) hu) (pv 0) pe_int (fun _ _ => rfl)) (pe_ix (ix_u (K := K) hu) (pv 0) pe_int (fun _ _ => rfl))) pe_int))
      (pss_one (ps_ret (pe_op op_mod (pe_op op_fdiv (pv 2) pe_int) (pv 1)))))), ?_⟩
    clear nd
    obtain ⟨st, n, rfl, ⟨z, hz, z0, z1⟩, n1, q⟩ := h
    walk_at "vs"
    refine v_ix_l (SqL.of hz) rfl ?_
    walk_at "vs"
    refine v_set_l hz rfl fun H1 c1 h1 => ?_
    walk_at "vs"
    refine v_ix_l (SqL.of h1) rfl ?_
    walk_at "vs"
    refine v_ix_l (SqL.of h1) rfl ?_
    walk_at "vs"
    exact q _ H1 (Int.emod_nonneg _ (by omega)) (Int.emod_lt_of_pos _ (by omega)) c1 ⟨_, h1, by omega, by omega⟩
abbrev s__law_names : Stmt := topS 21
theorem sc__law_names : FnScope ["_law_state_here", "_law_amount", "_law_letters", "_law_shift", "_law_found", "_law_k", "_law_name", "_law_turn", "_law_words"] ["_law_state_here", "_law_amount"] (defScope s__law_names) := ⟨rfl, rfl, rfl, by decide +kernel, rfl, by decide +kernel, by decide +kernel⟩
theorem ok__law_names (T : Txt K mg) (D : DefAt K mg "_law_names" s__law_names) (O__law_next : Own P w K mg base "_law_next" 1 ["_law_state_here", "_law_size"] (sp_next)) : Own P w K mg base "_law_names" 2 ["_law_state_here", "_law_amount"] (sp_names) := by
  refine own_of D (fun _ _ _ _ _ _ us hl => match us, hl with | [_, _], _ => rfl) (fnW_of (N := ["_law_state_here", "_law_amount", "_law_letters", "_law_shift", "_law_found", "_law_k", "_law_name", "_law_turn", "_law_words"]) sc__law_names (fun vs H Q E h => ?_) (fun f cdv A outer s H vs Q E hr h => ?_))
  · obtain ⟨st, n, rfl, _⟩ := h; rfl
  · have nd := sc__law_names.nd
    have hu := L2H.roomH_of hr
    have TK : L2N.Takes (cxOf (L2N.CX P w) P w K mg base ["_law_state_here", "_law_amount", "_law_letters", "_law_shift", "_law_found", "_law_k", "_law_name", "_law_turn", "_law_words"] "_law_names" (defScope s__law_names) f cdv A outer s H E) (fun cls d _ H => E cls d H) := L2N.takes_of rfl rfl rfl rfl
    refine ⟨_, (pss_cons (ps_set (i := 2) nd rfl (by first | exact Or.inl rfl | exact Or.inr rfl) pe_str)
      (pss_cons (ps_set (i := 3) nd rfl (by first | exact Or.inl rfl | exact Or.inr rfl) (pe_own O__law_next (by decide) hr rfl (fun σ => L2N.passAt TK σ) (pa_cons (pv 0) (pa_cons pe_int pa_nil))))
      (pss_cons (ps_set (i := 4) nd rfl (by first | exact Or.inl rfl | exact Or.inr rfl) (pe_lst pa_nil))
      (pss_cons (ps_for (passes_of rfl) rfl (pi_range1 rfl T.n_range (pa_cons (pv 1) pa_nil)) (pg_name (i := 5) nd rfl (by first | exact Or.inl rfl | exact Or.inr rfl))
      (pss_cons (ps_set (i := 6) nd rfl (by first | exact Or.inl rfl | exact Or.inr rfl) (pe_ix (ix_u (K := K) hu) (pv 2) (pe_op op_mod (pe_op (op_uadd (K := K)) (pv 3) (pv 5)) pe_int) (fun _ _ => rfl)))
      (pss_cons (ps_for (passes_of rfl) rfl (pi_range1 rfl T.n_range (pa_cons (pe_ix (ix_u (K := K) hu) (pe_lst (pa_cons pe_int (pa_cons pe_int (pa_cons pe_int (pa_cons pe_int (pa_cons (pe_own O__law_next (by decide) hr rfl (fun σ => L2N.passAt TK σ) (pa_cons (pv 0) (pa_cons pe_int pa_nil))) pa_nil)))))) (pe_own O__law_next (by decide) hr rfl (fun σ => L2N.passAt TK σ) (pa_cons (pv 0) (pa_cons pe_int pa_nil))) (fun _ _ => rfl)) pa_nil)) (pg_name (i := 7) nd rfl (by first | exact Or.inl rfl | exact Or.inr rfl))
      (pss_one (ps_set (i := 6) nd rfl (by first | exact Or.inl rfl | exact Or.inr rfl) (pe_op (op_uadd (K := K)) (pe_ix (ix_u (K := K) hu) (pv 2) (pe_own O__law_next (by decide) hr rfl (fun σ => L2N.passAt TK σ) (pa_cons (pv 0) (pa_cons pe_int pa_nil))) (fun _ _ => rfl)) (pv 6)))))
      (pss_cons (ps_if (pt_cmpR (op_ueq (K := K) hu) (pe_own O__law_next (by decide) hr rfl (fun σ => L2N.passAt TK σ) (pa_cons (pv 0) (pa_cons pe_int pa_nil))) pe_int (nomark _))
      (pss_cons (ps_set (i := 8) nd rfl (by first | exact Or.inl rfl | exact Or.inr rfl) (pe_lst (pa_cons pe_str (pa_cons pe_str (pa_cons pe_str (pa_cons pe_str (pa_cons pe_str (pa_cons pe_str (pa_cons pe_str (pa_cons pe_str (pa_cons pe_str (pa_cons pe_str (pa_cons pe_str pa_nil)))))))))))))
      (pss_one (ps_set (i := 6) nd rfl (by first | exact Or.inl rfl | exact Or.inr rfl) (pe_ix (ix_u (K := K) hu) (pe_op (op_uadd (K := K)) (pv 8) (pe_lst (pa_cons pe_str (pa_cons pe_str (pa_cons pe_str (pa_cons pe_str (pa_cons pe_str (pa_cons pe_str pa_nil)))))))) (pe_own O__law_next (by decide) hr rfl (fun σ => L2N.passAt TK σ) (pa_cons (pv 0) (pa_cons pe_int pa_nil))) (fun _ _ => rfl))))) pss_nil)
      (pss_cons (ps_if (pt_cmpR (op_uin (K := K) hu) (pv 6) (pv 4) rfl)
      (pss_one (ps_set (i := 6) nd rfl (by first | exact Or.inl rfl | exact Or.inr rfl) (pe_ix (ix_u (K := K) hu) (pv 2) (pe_op op_mod (pe_op (op_uadd (K := K)) (pv 3) (pv 5)) pe_int) (fun _ _ => rfl)))) pss_nil)
      (pss_one (ps_expr (pe_bm PySem.F.plainAttrs_list PySem.F.slot_list_append PySem.F.type_list_append mt_append (pv 4) (pa_cons (pv 6) pa_nil)))))))))
      (pss_one (ps_ret (pv 4))))))), ?_⟩
    clear nd
    obtain ⟨st, n, rfl, hst, n0, n1, q⟩ := h
    walk_at "vs"
    refine ⟨st, 26, rfl, hst, by omega, fun sh H2 sh0 sh1 c2 hst2 => ?_⟩
    walk_at "vs"
    refine v_newL (line9 (by show 0 ≤ 10000; decide)) fun f1 H3 nf c3 hf => ?_
    have nf0 : H f1 = none := c2.dom nf
    have fst : f1 ≠ st := by rintro rfl; obtain ⟨z, e, _⟩ := hst; rw [nf0] at e; cases e
    walk_at "vs"
    refine v_rng1' (by omega) (by omega) ?_
    refine v_for_range (fun i σ H' => ∃ (v1 v2 v3 v4 : Option V) (zs : List Str), σ = [some (.ref st), some (.int n), some (.str "abcdefghijklmnopqrstuvwxyz"), some (.int sh), some (.ref f1), v1, v2, v3, v4] ∧ Chg [st, f1] H3 H' ∧ StAt H' st ∧ H' f1 = some (.lst (zs.map V.str)) ∧
      zs.length = i ∧ (∀ z ∈ zs, isNm z = true) ∧ zs.Nodup ∧ (∀ z ∈ zs, 2 ≤ z.length ∨ ∃ j : Int, 0 ≤ j ∧ j < i ∧ z = ⟨#[97 + ((sh + j) % 26).toNat]⟩)) ⟨none, none, none, none, [], rfl, .refl, hst2.on0 c3, hf, rfl, by simp, by simp, by simp⟩ ?_ ?_
    · rintro i σ H4 hi ⟨v1, v2, v3, v4, zs, rfl, c4, hst4, hf4, hl, hnm, hnd, hone⟩
      have l0 : 0 ≤ (sh + (0 + (i : Int))) % 26 := Int.emod_nonneg _ (by decide)
      have l1 : (sh + (0 + (i : Int))) % 26 < 26 := Int.emod_lt_of_pos _ (by decide)
      have one : isNm ⟨#[97 + ((sh + (0 + (i : Int))) % 26).toNat]⟩ = true := isNm_one (by omega) (by omega)
      have fresh : (⟨#[97 + ((sh + (0 + (i : Int))) % 26).toNat]⟩ : Str) ∉ zs := fun m => by
        rcases hone _ m with h | ⟨j, j0, j1, e⟩
        · exact absurd h (by show ¬ 2 ≤ 1; decide)
        · have := str1_inj e
          omega
      have put : ∀ (x : Str) (H5 : Hp) (v7 v8 v9 : Option V), isNm x = true → x ∉ zs → (2 ≤ x.length ∨ x = ⟨#[97 + ((sh + (0 + (i : Int))) % 26).toNat]⟩) → Chg [st, f1] H3 H5 → StAt H5 st → H5 f1 = some (.lst (zs.map V.str)) →
          rAppend (.ref f1) [.str x] H5 fun _ H6 => ∃ (v1 v2 v3 v4 : Option V) (zs' : List Str), [some (V.ref st), some (.int n), some (.str "abcdefghijklmnopqrstuvwxyz"), some (.int sh), some (.ref f1), some (.int (0 + i)), some (.str x), v8, v9] = [some (.ref st), some (.int n), some (.str "abcdefghijklmnopqrstuvwxyz"), some (.int sh), some (.ref f1), v1, v2, v3, v4] ∧ Chg [st, f1] H3 H6 ∧ StAt H6 st ∧ H6 f1 = some (.lst (zs'.map V.str)) ∧
      zs'.length = i + 1 ∧ (∀ z ∈ zs', isNm z = true) ∧ zs'.Nodup ∧ (∀ z ∈ zs', 2 ≤ z.length ∨ ∃ j : Int, 0 ≤ j ∧ j < ((i + 1 : Nat) : Int) ∧ z = ⟨#[97 + ((sh + j) % 26).toNat]⟩) := by
        intro x H5 v7 v8 v9 hx hn hx1 c5 hst5 hf5
        refine v_append hf5 (by rw [List.length_map, hl]; exact line9' (by omega)) fun H6 c6 hf6 => ?_
        refine ⟨_, _, v8, v9, zs ++ [x], rfl, c5.trans (c6.mono (by simp)), hst5.on c6 (by simpa using fun e => fst e.symm), by rw [hf6, List.map_append]; rfl, by simp [hl], ?_, ?_, ?_⟩
        · intro z hz
          rcases List.mem_append.mp hz with h | h
          · exact hnm z h
          · rw [List.mem_singleton] at h; subst h; exact hx
        · rw [List.nodup_append]
          refine ⟨hnd, by simp, ?_⟩
          intro a ha b hb e
          rw [List.mem_singleton] at hb
          subst hb; subst e; exact hn ha
        · intro z hz
          rcases List.mem_append.mp hz with h | h
          · rcases hone z h with h | ⟨j, j0, j1, e⟩
            · exact .inl h
            · exact .inr ⟨j, j0, by omega, e⟩
          · rw [List.mem_singleton] at h
            subst h
            rcases hx1 with h | h
            · exact .inl h
            · exact .inr ⟨0 + i, by omega, by omega, h⟩
      walk_at "vs"
      refine v_ix_s abc_line (abc_ix l0 l1) ?_
      walk_at "vs"
      refine ⟨st, 6, rfl, hst4, by omega, fun r1 H5 r10 r11 c5 hst5 => ?_⟩
      walk_at "vs"
      refine v_newL (line9 (by show 5 ≤ 10000; decide)) fun g0 H6 ng0 c6 hg0 => ?_
      walk_at "vs"
      refine ⟨st, 5, rfl, hst5.on0 c6, by omega, fun r2 H7 r20 r21 c7 hst7 => ?_⟩
      walk_at "vs"
      have ng0st : st ≠ g0 := by rintro rfl; obtain ⟨z, e, _⟩ := hst5; rw [ng0] at e; cases e
      have ng0f : f1 ≠ g0 := by rintro rfl; rw [c5.dom ng0] at hf4; cases hf4
      refine v_ix_lany (SqL.of (c7.keep hg0 (by simpa using fun e => ng0st e.symm))) r20 (by show r2 < 5; omega) fun v hv => ?_
      obtain ⟨m, rfl, m0, m1⟩ : ∃ m : Int, v = .int m ∧ 0 ≤ m ∧ m ≤ 5 := by
        have := List.mem_of_getElem? hv
        simp only [List.mem_cons, List.not_mem_nil, or_false] at this
        rcases this with rfl | rfl | rfl | rfl | rfl
        all_goals exact ⟨_, rfl, by omega, by omega⟩
      have c47 : Chg [st] H4 H7 := (c5.trans c6.of0).trans c7
      walk_at "vs"
      refine v_rng1' (by omega) (by omega) ?_
      refine v_for_range (fun j σ H' => ∃ (v7 : Option V) (x : Str), σ = [some (.ref st), some (.int n), some (.str "abcdefghijklmnopqrstuvwxyz"), some (.int sh), some (.ref f1), some (.int (0 + i)), some (.str x), v7, v4] ∧ Chg [st] H4 H' ∧ StAt H' st ∧ x.length = j + 1 ∧ isNm x = true ∧ (j = 0 → x = ⟨#[97 + ((sh + (0 + (i : Int))) % 26).toNat]⟩))
        ⟨v3, _, rfl, c47, hst7, rfl, one, fun _ => rfl⟩ ?_ ?_
      · rintro j σ H8 hj ⟨v7, x, rfl, c8, hst8, hxl, hx, _⟩
        walk_at "vs"
        refine ⟨st, 26, rfl, hst8, by omega, fun r3 H9 r30 r31 c9 hst9 => ?_⟩
        walk_at "vs"
        refine v_ix_s abc_line (abc_ix r30 r31) ?_
        walk_at "vs"
        refine v_add_ss (line9 (by show 1 + x.length ≤ 10000; omega)) ?_
        walk_at "vs"
        have hl2 : ((⟨#[97 + r3.toNat]⟩ : Str) ++ x).length = j + 1 + 1 := by
          rw [Str.length_append, hxl]
          show 1 + (j + 1) = _
          omega
        refine ⟨_, _, rfl, c8.trans c9, hst9, hl2, ?_, fun h => by omega⟩
        have hc := hx
        simp only [isNm, Bool.and_eq_true, decide_eq_true_eq, List.all_eq_true] at hc ⊢
        refine ⟨⟨by omega, by omega⟩, fun c hm => ?_⟩
        have hm2 : c ∈ (#[97 + r3.toNat] : Array Nat).toList ++ x.cps.toList := by rw [← Array.toList_append]; exact hm
        rcases List.mem_append.mp hm2 with h | h
        · simp at h; omega
        · exact hc.2 c h
      · rintro σ H8 ⟨v7, x, rfl, c8, hst8, hxl, hx, hx0⟩
        have c38 : Chg [st, f1] H3 H8 := c4.trans (c8.mono (by simp))
        have hf8 : H8 f1 = some (.lst (zs.map V.str)) := c8.keep hf4 (by simpa using fst)
        have hx2 : 2 ≤ x.length ∨ x = ⟨#[97 + ((sh + (0 + (i : Int))) % 26).toNat]⟩ := by
          by_cases z : (m.toNat - 0 : Nat) = 0
          · exact .inr (hx0 (by omega))
          · exact .inl (by omega)
        walk_at "vp"
        refine v_join (fun σ H9 => ∃ (y : Str) (v9 : Option V), σ = [some (.ref st), some (.int n), some (.str "abcdefghijklmnopqrstuvwxyz"), some (.int sh), some (.ref f1), some (.int (0 + i)), some (.str y), v7, v9] ∧ isNm y = true ∧ (2 ≤ y.length ∨ y = ⟨#[97 + ((sh + (0 + (i : Int))) % 26).toNat]⟩) ∧ Chg [st, f1] H3 H9 ∧ StAt H9 st ∧ H9 f1 = some (.lst (zs.map V.str))) ?_ ?_
        · rintro σ H9 ⟨y, v9, rfl, hy, hy1, c9, hst9, hf9⟩
          walk_at "vs"
          refine v_in_l (SqL.of hf9) rfl (RT.flat_strs zs) ?_
          rw [inV_strs]
          walk_at "vs"
          refine v_iteD (fun hm => ?_) (fun hm => ?_)
          · walk_at "vs"
            refine v_ix_s abc_line (abc_ix l0 l1) ?_
            walk_at "vs"
            refine v_bml (SqL.of hf9) ?_
            walk_at "vs"
            exact put _ H9 none v7 v9 one fresh (.inr rfl) c9 hst9 hf9
          · walk_at "vs"
            refine v_bml (SqL.of hf9) ?_
            walk_at "vs"
            exact put _ H9 none v7 v9 hy hm hy1 c9 hst9 hf9
        · intro U hU
          walk_at "vs"
          refine ⟨st, 6, rfl, hst8, by omega, fun r4 H9 _ _ c9 hst9 => ?_⟩
          have c39 : Chg [st, f1] H3 H9 := c38.trans (c9.mono (by simp))
          have hf9 : H9 f1 = some (.lst (zs.map V.str)) := c9.keep hf8 (by simpa using fst)
          walk_at "vs"
          refine v_iteD (fun hk => ?_) (fun hk => ?_)
          · walk_at "vs"
            refine v_newL (line9 (by show 11 ≤ 10000; decide)) fun w1 H10 nw1 c10 hw1 => ?_
            walk_at "vs"
            refine v_newL (line9 (by show 6 ≤ 10000; decide)) fun w2 H11 nw2 c11 hw2 => ?_
            refine v_add_ll (c11.at hw1) hw2 (line9 (by decide)) fun w3 H12 nw3 c12 hw3 => ?_
            walk_at "vs"
            have c912 := (c10.trans c11).trans c12
            refine ⟨st, 17, rfl, hst9.on0 c912, by omega, fun r5 H13 r50 r51 c13 hst13 => ?_⟩
            have nw3st : st ≠ w3 := by rintro rfl; obtain ⟨z, e, _⟩ := hst9.on0 (c10.trans c11); rw [nw3] at e; cases e
            refine v_ix_lany (SqL.of (c13.keep hw3 (by simpa using fun e => nw3st e.symm))) r50 (by show r5 < 17; omega) fun v hv => ?_
            obtain ⟨y, rfl, hy, hy2⟩ : ∃ y, v = .str y ∧ isNm y = true ∧ 2 ≤ y.length := by
              have := List.mem_of_getElem? hv
              simp only [List.mem_append, List.mem_cons, List.not_mem_nil, or_false] at this
              rcases this with (rfl | rfl | rfl | rfl | rfl | rfl | rfl | rfl | rfl | rfl | rfl) | (rfl | rfl | rfl | rfl | rfl | rfl)
              all_goals exact ⟨_, rfl, by decide +kernel, by decide +kernel⟩
            walk_at "vs"
            exact hU _ _ ⟨y, _, rfl, hy, .inl hy2, (c39.trans c912.of0).trans (c13.mono (by simp)), hst13, c13.keep (c912.at hf9) (by simpa using fst)⟩
          · walk_at "vs"
            exact hU _ _ ⟨x, _, rfl, hx, hx2, c39, hst9, hf9⟩
    · rintro σ H4 ⟨v1, v2, v3, v4, zs, rfl, c4, hst4, hf4, hl, hnm, hnd, hone⟩
      walk_at "vs"
      refine q f1 zs H4 nf0 ?_ hst4 hf4 (by omega) hnm hnd
      refine (c2.trans c3.of0).trans' c4 fun l hm => ?_
      simp only [List.mem_cons, List.not_mem_nil, or_false] at hm
      rcases hm with rfl | rfl
      · exact .inl (by simp)
      · exact .inr nf0
abbrev s__law_value : Stmt := topS 22
theorem sc__law_value : FnScope ["_law_state_here", "_law_deep", "_law_boxes", "_law_lists", "_law_kind", "_law_one", "_law_words", "_law_word"] ["_law_state_here", "_law_deep", "_law_boxes", "_law_lists"] (defScope s__law_value) := ⟨rfl, rfl, rfl, by decide +kernel, rfl, by decide +kernel, by decide +kernel⟩
theorem st__law_value (T : Txt K mg) (D : DefAt K mg "_law_value" s__law_value) (O__law_next : Own P w K mg base "_law_next" 1 ["_law_state_here", "_law_size"] (sp_next)) (n : Nat) (O__law_value : Own P w K mg base "_law_value" (2 + n) ["_law_state_here", "_law_deep", "_law_boxes", "_law_lists"] (sp_value n)) : Own P w K mg base "_law_value" (2 + n + 1) ["_law_state_here", "_law_deep", "_law_boxes", "_law_lists"] (sp_value (n + 1)) := by
  refine own_of D (fun _ _ _ _ _ _ us hl => match us, hl with | [_, _, _, _], _ => rfl) (fnW_of (k := 2 + n) (N := ["_law_state_here", "_law_deep", "_law_boxes", "_law_lists", "_law_kind", "_law_one", "_law_words", "_law_word"]) sc__law_value (fun vs H Q E h => ?_) (fun f cdv A outer s H vs Q E hr h => ?_))
  · obtain ⟨st, dp, b, l, bs, ls, rfl, _⟩ := h; rfl
  · have nd := sc__law_value.nd
    have hu := L2H.roomH_of hr
    have TK : L2N.Takes (cxOf (L2N.CX P w) P w K mg base ["_law_state_here", "_law_deep", "_law_boxes", "_law_lists", "_law_kind", "_law_one", "_law_words", "_law_word"] "_law_value" (defScope s__law_value) f cdv A outer s H E) (fun cls d _ H => E cls d H) := L2N.takes_of rfl rfl rfl rfl
    refine ⟨_, (pss_cons (ps_set (i := 4) nd rfl (by first | exact Or.inl rfl | exact Or.inr rfl) (pe_own O__law_next (by omega) hr rfl (fun σ => L2N.passAt TK σ) (pa_cons (pv 0) (pa_cons pe_int pa_nil))))
      (pss_cons (ps_if (PW.pt (pw_or (pt_cmpR op_ult (pv 1) pe_int (nomark _)) (pw_or1 (pt_cmpR op_ult (pv 4) pe_int (nomark _)))))
      (pss_cons (ps_if (PW.pt (pw_and (pt_cmpR op_gt (pe_callB (call_ulen (K := K)) (by rfl) T.n_len (by decide +kernel) (pa_cons (pv 2) pa_nil)) pe_int (nomark _)) (pw_and1 (pt_cmpR op_gt (pe_own O__law_next (by omega) hr rfl (fun σ => L2N.passAt TK σ) (pa_cons (pv 0) (pa_cons pe_int pa_nil))) pe_int (nomark _)))))
      (pss_one (ps_ret (pe_tup (pa_cons pe_str (pa_cons (pe_ix (ix_u (K := K) hu) (pv 2) (pe_own O__law_next (by omega) hr rfl (fun σ => L2N.passAt TK σ) (pa_cons (pv 0) (pa_cons (pe_callB (call_ulen (K := K)) (by rfl) T.n_len (by decide +kernel) (pa_cons (pv 2) pa_nil)) pa_nil))) (fun _ _ => rfl)) pa_nil))))) pss_nil)
      (pss_cons (ps_if (PW.pt (pw_and (pt_cmpR op_gt (pe_callB (call_ulen (K := K)) (by rfl) T.n_len (by decide +kernel) (pa_cons (pv 3) pa_nil)) pe_int (nomark _)) (pw_and1 (pt_cmpR (op_ueq (K := K) hu) (pe_own O__law_next (by omega) hr rfl (fun σ => L2N.passAt TK σ) (pa_cons (pv 0) (pa_cons pe_int pa_nil))) pe_int (nomark _)))))
      (pss_one (ps_ret (pe_tup (pa_cons pe_str (pa_cons (pe_ix (ix_u (K := K) hu) (pv 3) (pe_own O__law_next (by omega) hr rfl (fun σ => L2N.passAt TK σ) (pa_cons (pv 0) (pa_cons (pe_callB (call_ulen (K := K)) (by rfl) T.n_len (by decide +kernel) (pa_cons (pv 3) pa_nil)) pa_nil))) (fun _ _ => rfl)) pa_nil))))) pss_nil)
      (pss_one (ps_ret (pe_tup (pa_cons pe_str (pa_cons (pe_ix (ix_u (K := K) hu) (pe_lst (pa_cons (pe_own O__law_next (by omega) hr rfl (fun σ => L2N.passAt TK σ) (pa_cons (pv 0) (pa_cons pe_int pa_nil))) (pa_cons (pe_own O__law_next (by omega) hr rfl (fun σ => L2N.passAt TK σ) (pa_cons (pv 0) (pa_cons pe_int pa_nil))) pa_nil))) (pe_op op_fdiv (pe_own O__law_next (by omega) hr rfl (fun σ => L2N.passAt TK σ) (pa_cons (pv 0) (pa_cons pe_int pa_nil))) pe_int) (fun _ _ => rfl)) pa_nil))))))) pss_nil)
      (pss_cons (ps_set (i := 5) nd rfl (by first | exact Or.inl rfl | exact Or.inr rfl) (pe_own O__law_value (by omega) hr rfl (fun σ => L2N.passAt TK σ) (pa_cons (pv 0) (pa_cons (pe_op op_sub (pv 1) pe_int) (pa_cons (pv 2) (pa_cons (pv 3) pa_nil))))))
      (pss_cons (ps_if (pt_cmpR (op_ueq (K := K) hu) (pv 4) pe_int (nomark _))
      (pss_one (ps_ret (pe_tup (pa_cons pe_str (pa_cons (pv 5) pa_nil))))) pss_nil)
      (pss_cons (ps_if (PW.pt (pw_and (pt_cmpR (op_ueq (K := K) hu) (pv 4) pe_int (nomark _)) (pw_and1 (pt_cmpR op_gt (pe_callB (call_ulen (K := K)) (by rfl) T.n_len (by decide +kernel) (pa_cons (pv 3) pa_nil)) pe_int (nomark _)))))
      (pss_one (ps_ret (pe_tup (pa_cons pe_str (pa_cons (pe_ix (ix_u (K := K) hu) (pv 3) (pe_own O__law_next (by omega) hr rfl (fun σ => L2N.passAt TK σ) (pa_cons (pv 0) (pa_cons (pe_callB (call_ulen (K := K)) (by rfl) T.n_len (by decide +kernel) (pa_cons (pv 3) pa_nil)) pa_nil))) (fun _ _ => rfl)) (pa_cons (pv 5) pa_nil)))))) pss_nil)
      (pss_cons (ps_set (i := 6) nd rfl (by first | exact Or.inl rfl | exact Or.inr rfl) (pe_lst (pa_cons pe_str (pa_cons pe_str (pa_cons pe_str (pa_cons pe_str (pa_cons pe_str (pa_cons pe_str (pa_cons pe_str pa_nil)))))))))
      (pss_cons (ps_set (i := 7) nd rfl (by first | exact Or.inl rfl | exact Or.inr rfl) (pe_ix (ix_u (K := K) hu) (pv 6) (pe_ix (ix_u (K := K) hu) (pe_lst (pa_cons pe_int (pa_cons pe_int (pa_cons pe_int (pa_cons pe_int (pa_cons (pe_own O__law_next (by omega) hr rfl (fun σ => L2N.passAt TK σ) (pa_cons (pv 0) (pa_cons pe_int pa_nil))) pa_nil)))))) (pe_own O__law_next (by omega) hr rfl (fun σ => L2N.passAt TK σ) (pa_cons (pv 0) (pa_cons pe_int pa_nil))) (fun _ _ => rfl)) (fun _ _ => rfl)))
      (pss_one (ps_ret (pe_tup (pa_cons (pv 7) (pa_cons (pv 5) (pa_cons (pe_own O__law_value (by omega) hr rfl (fun σ => L2N.passAt TK σ) (pa_cons (pv 0) (pa_cons (pe_op op_sub (pv 1) pe_int) (pa_cons (pv 2) (pa_cons (pv 3) pa_nil))))) pa_nil))))))))))))), ?_⟩
    clear nd
    obtain ⟨st, dp, b, l, bs, ls, rfl, hst, d1, dn, hb, hl, lb, ll, nb, nl, q⟩ := h
    have bst := hst.ne_strs hb
    have lst := hst.ne_strs hl
    walk_at "vs"
    refine ⟨st, 10, rfl, hst, by omega, fun kd H1 kd0 kd1 c1 hst1 => ?_⟩
    walk_at "vp"
    refine v_ifJ (fun k H' => H' = H1 ∧ k = decide (dp < 2 ∨ kd < 4)) ?_ ?_ ?_
    · rintro H2 ⟨rfl, _⟩
      walk_at "vp"
      refine v_ifJ (fun k H' => Chg [st] H2 H' ∧ StAt H' st ∧ (k = true → 1 ≤ bs.length)) ?_ ?_ ?_
      · rintro H3 ⟨c3, hst3, hb0⟩
        have cc := c1.trans c3
        walk_at "vs"
        refine v_len_l (SqL.of (cc.keep hb (by simpa using bst))) ?_
        walk_at "vs"
        rw [List.length_map]
        refine ⟨st, bs.length, rfl, hst3, by have := hb0 rfl; omega, fun ix H4 i0 i1 c4 hst4 => ?_⟩
        have cc4 := cc.trans c4
        walk_at "vs"
        refine v_ix_strs (cc4.seqLS (SqL.of hb) (by simpa using fun _ _ => bst)) i0 i1 fun z hz => ?_
        walk_at "vs"
        refine v_newT (line9 (by show 2 ≤ 10000; decide)) fun t H5 nt c5 ht => ?_
        exact q _ (.box z) H5 (cc4.trans c5.of0) (hst4.on0 c5) (.tup ht (.cons (.str (wOk (by simp))) (.one (.str (isNm_ok (nb z hz)))))) hz d1
      · rintro H3 ⟨c3, hst3, _⟩
        have cc := c1.trans c3
        walk_at "vp"
        refine v_ifJ (fun k H' => Chg [st] H3 H' ∧ StAt H' st ∧ (k = true → 1 ≤ ls.length)) ?_ ?_ ?_
        · rintro H4 ⟨c4, hst4, hl0⟩
          have cc4 := cc.trans c4
          walk_at "vs"
          refine v_len_l (SqL.of (cc4.keep hl (by simpa using lst))) ?_
          walk_at "vs"
          rw [List.length_map]
          refine ⟨st, ls.length, rfl, hst4, by have := hl0 rfl; omega, fun ix H5 i0 i1 c5 hst5 => ?_⟩
          have cc5 := cc4.trans c5
          walk_at "vs"
          refine v_ix_strs (cc5.seqLS (SqL.of hl) (by simpa using fun _ _ => lst)) i0 i1 fun z hz => ?_
          walk_at "vs"
          refine v_newT (line9 (by show 2 ≤ 10000; decide)) fun t H6 nt c6 ht => ?_
          exact q _ (.size z) H6 (cc5.trans c6.of0) (hst5.on0 c6) (.tup ht (.cons (.str (wOk (by simp))) (.one (.str (isNm_ok (nl z hz)))))) hz d1
        · rintro H4 ⟨c4, hst4, _⟩
          have cc4 := cc.trans c4
          walk_at "vs"
          refine ⟨st, 4, rfl, hst4, by omega, fun a1 H5 a10 a11 c5 hst5 => ?_⟩
          walk_at "vs"
          refine ⟨st, 1000000, rfl, hst5, by omega, fun a2 H6 a20 a21 c6 hst6 => ?_⟩
          walk_at "vs"
          refine v_newL (line9 (by show 2 ≤ 10000; decide)) fun g H7 ng c7 hg => ?_
          walk_at "vs"
          refine ⟨st, 6, rfl, hst6.on0 c7, by omega, fun a3 H8 a30 a31 c8 hst8 => ?_⟩
          have ngst : g ≠ st := by rintro rfl; obtain ⟨z, e, _⟩ := hst6; rw [ng] at e; cases e
          walk_at "vs"
          refine v_ix_lany (SqL.of (c8.keep hg (by simpa using ngst))) (by omega) (by show a3 / 5 < 2; omega) fun v hv => ?_
          obtain ⟨m, rfl, m0, m1⟩ : ∃ m : Int, v = .int m ∧ 0 ≤ m ∧ m < 1000000 := by
            have := List.mem_of_getElem? hv
            simp only [List.mem_cons, List.not_mem_nil, or_false] at this
            rcases this with rfl | rfl
            all_goals exact ⟨_, rfl, by omega, by omega⟩
          walk_at "vs"
          refine v_newT (line9 (by show 2 ≤ 10000; decide)) fun t H9 nt c9 ht => ?_
          exact q _ (.num m) H9 ((((cc4.trans c5).trans c6).trans c7.of0).trans (c8.trans c9.of0)) (hst8.on0 c9) (.tup ht (.cons (.str (wOk (by simp))) (.one (.int m)))) ⟨m0, m1⟩ d1
        · intro Q' hQ'
          walk_at "vs"
          refine v_len_l (SqL.of (cc.keep hl (by simpa using lst))) ?_
          walk_at "vs"
          rw [List.length_map]
          refine v_iteD (fun h0 => ?_) (fun h0 => ?_)
          · walk_at "vs"
            refine ⟨st, 6, rfl, hst3, by omega, fun a1 H5 _ _ c5 hst5 => ?_⟩
            walk_at "vs"
            exact hQ' _ _ ⟨c5, hst5, fun _ => by omega⟩
          · walk_at "vs"
            exact hQ' _ _ ⟨.refl, hst3, fun z => by cases z⟩
      · intro Q' hQ'
        walk_at "vs"
        refine v_len_l (SqL.of (c1.keep hb (by simpa using bst))) ?_
        walk_at "vs"
        rw [List.length_map]
        refine v_iteD (fun h0 => ?_) (fun h0 => ?_)
        · walk_at "vs"
          refine ⟨st, 3, rfl, hst1, by omega, fun a1 H5 _ _ c5 hst5 => ?_⟩
          walk_at "vs"
          exact hQ' _ _ ⟨c5, hst5, fun _ => by omega⟩
        · walk_at "vs"
          exact hQ' _ _ ⟨.refl, hst1, fun z => by cases z⟩
    · rintro H2 ⟨rfl, hd⟩
      have hd2 : 2 ≤ dp := by
        have := of_decide_eq_false hd.symm
        omega
      have kB : ∀ {H'}, Chg [st] H H' → H' b = some (.lst (List.map V.str bs)) := fun c => c.keep hb (by simpa using bst)
      have kL : ∀ {H'}, Chg [st] H H' → H' l = some (.lst (List.map V.str ls)) := fun c => c.keep hl (by simpa using lst)
      walk_at "vs"
      refine ⟨st, dp - 1, b, l, bs, ls, rfl, hst1, by omega, by omega, kB c1, kL c1, lb, ll, nb, nl, fun v1 u1 H3 c3 hst3 r1 ok1 dp1 => ?_⟩
      have cc := c1.trans c3
      walk_at "vs"
      refine v_iteD (fun h4 => ?_) (fun h4 => ?_)
      · walk_at "vs"
        refine v_newT (line9 (by show 2 ≤ 10000; decide)) fun t H5 nt c5 ht => ?_
        exact q _ (.neg u1) H5 (cc.trans c5.of0) (hst3.on0 c5) (.tup ht (.cons (.str (wOk (by simp))) (.one (r1.on c5)))) ok1 (by simp only [Vl.dp]; omega)
      walk_at "vp"
      refine v_ifJ (fun k H' => H' = H3 ∧ (k = true → 1 ≤ ls.length)) ?_ ?_ ?_
      · rintro H4 ⟨rfl, hl0⟩
        walk_at "vs"
        refine v_len_l (SqL.of (kL cc)) ?_
        walk_at "vs"
        rw [List.length_map]
        refine ⟨st, ls.length, rfl, hst3, by have := hl0 rfl; omega, fun ix H5 i0 i1 c5 hst5 => ?_⟩
        have cc5 := cc.trans c5
        walk_at "vs"
        refine v_ix_strs (cc5.seqLS (SqL.of hl) (by simpa using fun _ _ => lst)) i0 i1 fun z hz => ?_
        walk_at "vs"
        refine v_newT (line9 (by show 3 ≤ 10000; decide)) fun t H6 nt c6 ht => ?_
        exact q _ (.item z u1) H6 (cc5.trans c6.of0) (hst5.on0 c6) (.tup ht (.cons (.str (wOk (by simp))) (.cons (.str (isNm_ok (nl z hz))) (.one ((r1.on c5).on c6))))) ⟨hz, ok1⟩ (by simp only [Vl.dp]; omega)
      · rintro H4 ⟨rfl, _⟩
        walk_at "vs"
        refine v_newL (line9 (by show 7 ≤ 10000; decide)) fun ww H5 nw c5 hw => ?_
        walk_at "vs"
        have hst5 := hst3.on0 c5
        have nwst : ww ≠ st := by rintro rfl; obtain ⟨z, e, _⟩ := hst3; rw [nw] at e; cases e
        refine ⟨st, 7, rfl, hst5, by omega, fun a1 H6 a10 a11 c6 hst6 => ?_⟩
        walk_at "vs"
        refine v_newL (line9 (by show 5 ≤ 10000; decide)) fun g H7 ng c7 hg => ?_
        walk_at "vs"
        have hst7 := hst6.on0 c7
        have ngst : g ≠ st := by rintro rfl; obtain ⟨z, e, _⟩ := hst6; rw [ng] at e; cases e
        refine ⟨st, 5, rfl, hst7, by omega, fun a2 H8 a20 a21 c8 hst8 => ?_⟩
        walk_at "vs"
        refine v_ix_lany (SqL.of (c8.keep hg (by simpa using ngst))) a20 (by show a2 < 5; omega) fun v hv => ?_
        obtain ⟨m, rfl, m0, m1⟩ : ∃ m : Int, v = .int m ∧ 0 ≤ m ∧ m < 7 := by
          have := List.mem_of_getElem? hv
          simp only [List.mem_cons, List.not_mem_nil, or_false] at this
          rcases this with rfl | rfl | rfl | rfl | rfl
          all_goals exact ⟨_, rfl, by omega, by omega⟩
        have hw8 := c8.keep (c7.at (c6.keep hw (by simpa using nwst))) (by simpa using nwst)
        refine v_ix_lany (SqL.of hw8) m0 (by show m < 7; omega) fun v hv => ?_
        obtain ⟨x, rfl, hx⟩ : ∃ x, v = .str x ∧ x ∈ binW := by
          have := List.mem_of_getElem? hv
          simp only [List.mem_cons, List.not_mem_nil, or_false] at this
          rcases this with rfl | rfl | rfl | rfl | rfl | rfl | rfl
          all_goals exact ⟨_, rfl, by simp [binW]⟩
        have cc8 := ((cc.trans c5.of0).trans c6).trans (c7.of0.trans c8)
        have c38 := (c5.of0.trans c6).trans (c7.of0.trans c8)
        walk_at "vs"
        refine ⟨st, dp - 1, b, l, bs, ls, rfl, hst8, by omega, by omega, kB cc8, kL cc8, lb, ll, nb, nl, fun v2 u2 H9 c9 hst9 r2 ok2 dp2 => ?_⟩
        walk_at "vs"
        refine v_newT (line9 (by show 3 ≤ 10000; decide)) fun t H10 nt c10 ht => ?_
        have hxo : PyData.strOk x = true := by
          simp only [binW, List.mem_cons, List.not_mem_nil, or_false] at hx
          rcases hx with rfl | rfl | rfl | rfl | rfl | rfl | rfl
          all_goals exact wOk (by simp)
        exact q _ (.bin x u1 u2) H10 ((cc8.trans c9).trans c10.of0) (hst9.on0 c10) (.tup ht (.cons (.str hxo) (.cons (((r1.on c38).on c9).on c10) (.one (r2.on c10))))) ⟨hx, ok1, ok2⟩ (by simp only [Vl.dp]; omega)
      · intro Q' hQ'
        walk_at "vs"
        refine v_iteD (fun h5 => ?_) (fun h5 => ?_)
        · walk_at "vs"
          refine v_len_l (SqL.of (kL cc)) ?_
          walk_at "vs"
          rw [List.length_map]
          exact hQ' _ _ ⟨rfl, fun h => by have := of_decide_eq_true h; omega⟩
        · walk_at "vs"
          exact hQ' _ _ ⟨rfl, fun z => by cases z⟩
    · intro Q' hQ'
      walk_at "vs"
      refine v_iteD (fun h => ?_) (fun h => ?_)
      · walk_at "vs"
        exact hQ' _ _ ⟨rfl, by simp [h]⟩
      · walk_at "vs"
        exact hQ' _ _ ⟨rfl, by simp [h]⟩
theorem ok__law_value (T : Txt K mg) (D : DefAt K mg "_law_value" s__law_value) (O__law_next : Own P w K mg base "_law_next" 1 ["_law_state_here", "_law_size"] (sp_next)) : ∀ n : Nat, Own P w K mg base "_law_value" (2 + n) ["_law_state_here", "_law_deep", "_law_boxes", "_law_lists"] (sp_value n)
  | 0 => own_of (k := 2) D (fun _ _ _ _ _ _ us hl => match us, hl with | [_, _, _, _], _ => rfl) (fnW_of (N := ["_law_state_here", "_law_deep", "_law_boxes", "_law_lists", "_law_kind", "_law_one", "_law_words", "_law_word"]) sc__law_value (fun vs H Q E h => ((show ∀ vs H Q E, ¬ (sp_value 0 : Sp) vs H Q E from fun vs H Q E => by rintro ⟨st, dp, b, l, bs, ls, rfl, _, h1, h2, _⟩; omega) vs H Q E h).elim) (fun f cdv A outer s H vs Q E hr h => ((show ∀ vs H Q E, ¬ (sp_value 0 : Sp) vs H Q E from fun vs H Q E => by rintro ⟨st, dp, b, l, bs, ls, rfl, _, h1, h2, _⟩; omega) vs H Q E h).elim))
  | n + 1 => st__law_value T D O__law_next n (ok__law_value T D O__law_next n)
abbrev s__law_plain : Stmt := topS 23
theorem sc__law_plain : FnScope ["_law_state_here", "_law_names_here", "_law_boxes", "_law_lists", "_law_functions", "_law_doors", "_law_inside", "_law_kind", "_law_value_here", "_law_box", "_law_name", "_law_place", "_law_some", "_law_amount", "_law_k"] ["_law_state_here", "_law_names_here"] (defScope s__law_plain) := ⟨rfl, rfl, rfl, by decide +kernel, rfl, by decide +kernel, by decide +kernel⟩
theorem ok__law_plain (T : Txt K mg) (D : DefAt K mg "_law_plain" s__law_plain) (O__law_next : Own P w K mg base "_law_next" 1 ["_law_state_here", "_law_size"] (sp_next)) (O__law_value : Own P w K mg base "_law_value" 6 ["_law_state_here", "_law_deep", "_law_boxes", "_law_lists"] (sp_value 4)) : Own P w K mg base "_law_plain" 7 ["_law_state_here", "_law_names_here"] (sp_plain) := by
  refine own_of D (fun _ _ _ _ _ _ us hl => match us, hl with | [_, _], _ => rfl) (fnW_of (N := ["_law_state_here", "_law_names_here", "_law_boxes", "_law_lists", "_law_functions", "_law_doors", "_law_inside", "_law_kind", "_law_value_here", "_law_box", "_law_name", "_law_place", "_law_some", "_law_amount", "_law_k"]) sc__law_plain (fun vs H Q E h => ?_) (fun f cdv A outer s H vs Q E hr h => ?_))
  · obtain ⟨st, nm, m, rfl, _⟩ := h; rfl
  · have nd := sc__law_plain.nd
    have hu := L2H.roomH_of hr
    have TK : L2N.Takes (cxOf (L2N.CX P w) P w K mg base ["_law_state_here", "_law_names_here", "_law_boxes", "_law_lists", "_law_functions", "_law_doors", "_law_inside", "_law_kind", "_law_value_here", "_law_box", "_law_name", "_law_place", "_law_some", "_law_amount", "_law_k"] "_law_plain" (defScope s__law_plain) f cdv A outer s H E) (fun cls d _ H => E cls d H) := L2N.takes_of rfl rfl rfl rfl
    refine ⟨_, (pss_cons (ps_asg (pv 1) (pg_tupU (K := K) (n := 5) rfl (pgs_cons (pg_name (i := 2) nd rfl (by first | exact Or.inl rfl | exact Or.inr rfl)) (pgs_cons (pg_name (i := 3) nd rfl (by first | exact Or.inl rfl | exact Or.inr rfl)) (pgs_cons (pg_name (i := 4) nd rfl (by first | exact Or.inl rfl | exact Or.inr rfl)) (pgs_cons (pg_name (i := 5) nd rfl (by first | exact Or.inl rfl | exact Or.inr rfl)) (pgs_cons (pg_name (i := 6) nd rfl (by first | exact Or.inl rfl | exact Or.inr rfl)) pgs_nil)))))))
      (pss_cons (ps_set (i := 7) nd rfl (by first | exact Or.inl rfl | exact Or.inr rfl) (pe_own O__law_next (by decide) hr rfl (fun σ => L2N.passAt TK σ) (pa_cons (pv 0) (pa_cons pe_int pa_nil))))
      (pss_cons (ps_set (i := 8) nd rfl (by first | exact Or.inl rfl | exact Or.inr rfl) (pe_own O__law_value (by decide) hr rfl (fun σ => L2N.passAt TK σ) (pa_cons (pv 0) (pa_cons (pe_op (op_uadd (K := K)) pe_int (pe_own O__law_next (by decide) hr rfl (fun σ => L2N.passAt TK σ) (pa_cons (pv 0) (pa_cons pe_int pa_nil)))) (pa_cons (pv 2) (pa_cons (pv 3) pa_nil))))))
      (pss_cons (ps_if (pt_cmpR (op_ueq (K := K) hu) (pe_callB (call_ulen (K := K)) (by rfl) T.n_len (by decide +kernel) (pa_cons (pv 2) pa_nil)) pe_int (nomark _))
      (pss_one (ps_ret (pe_tup (pa_cons pe_str (pa_cons (pv 8) pa_nil))))) pss_nil)
      (pss_cons (ps_set (i := 9) nd rfl (by first | exact Or.inl rfl | exact Or.inr rfl) (pe_ix (ix_u (K := K) hu) (pv 2) (pe_own O__law_next (by decide) hr rfl (fun σ => L2N.passAt TK σ) (pa_cons (pv 0) (pa_cons (pe_callB (call_ulen (K := K)) (by rfl) T.n_len (by decide +kernel) (pa_cons (pv 2) pa_nil)) pa_nil))) (fun _ _ => rfl)))
      (pss_cons (ps_if (PW.pt (pw_and (pt_cmpR op_ult (pv 7) pe_int (nomark _)) (pw_and1 (pt_cmpR op_gt (pe_callB (call_ulen (K := K)) (by rfl) T.n_len (by decide +kernel) (pa_cons (pv 3) pa_nil)) pe_int (nomark _)))))
      (pss_cons (ps_set (i := 10) nd rfl (by first | exact Or.inl rfl | exact Or.inr rfl) (pe_ix (ix_u (K := K) hu) (pv 3) (pe_own O__law_next (by decide) hr rfl (fun σ => L2N.passAt TK σ) (pa_cons (pv 0) (pa_cons (pe_callB (call_ulen (K := K)) (by rfl) T.n_len (by decide +kernel) (pa_cons (pv 3) pa_nil)) pa_nil))) (fun _ _ => rfl)))
      (pss_cons (ps_set (i := 11) nd rfl (by first | exact Or.inl rfl | exact Or.inr rfl) (pe_ix (ix_u (K := K) hu) (pe_lst (pa_cons (pe_tup (pa_cons pe_str (pa_cons (pe_own O__law_next (by decide) hr rfl (fun σ => L2N.passAt TK σ) (pa_cons (pv 0) (pa_cons pe_int pa_nil))) pa_nil))) (pa_cons (pe_own O__law_value (by decide) hr rfl (fun σ => L2N.passAt TK σ) (pa_cons (pv 0) (pa_cons pe_int (pa_cons (pv 2) (pa_cons (pv 3) pa_nil))))) pa_nil))) (pe_own O__law_next (by decide) hr rfl (fun σ => L2N.passAt TK σ) (pa_cons (pv 0) (pa_cons pe_int pa_nil))) (fun _ _ => rfl)))
      (pss_cons (ps_set (i := 12) nd rfl (by first | exact Or.inl rfl | exact Or.inr rfl) (pe_lst (pa_cons (pe_tup (pa_cons pe_str (pa_cons (pv 10) (pa_cons (pv 8) pa_nil)))) (pa_cons (pe_tup (pa_cons pe_str (pa_cons (pv 10) (pa_cons (pv 8) pa_nil)))) (pa_cons (pe_tup (pa_cons pe_str (pa_cons (pv 9) (pa_cons (pv 10) pa_nil)))) (pa_cons (pe_tup (pa_cons pe_str (pa_cons (pv 10) (pa_cons (pv 11) (pa_cons (pv 8) pa_nil))))) pa_nil))))))
      (pss_one (ps_ret (pe_ix (ix_u (K := K) hu) (pv 12) (pe_own O__law_next (by decide) hr rfl (fun σ => L2N.passAt TK σ) (pa_cons (pv 0) (pa_cons pe_int pa_nil))) (fun _ _ => rfl))))))) pss_nil)
      (pss_cons (ps_if (PW.pt (pw_and (pt_cmpR op_ult (pv 7) pe_int (nomark _)) (pw_and1 (pt_cmpR op_gt (pe_callB (call_ulen (K := K)) (by rfl) T.n_len (by decide +kernel) (pa_cons (pv 4) pa_nil)) pe_int (nomark _)))))
      (pss_cons (ps_asg (pe_ix (ix_u (K := K) hu) (pv 4) (pe_own O__law_next (by decide) hr rfl (fun σ => L2N.passAt TK σ) (pa_cons (pv 0) (pa_cons (pe_callB (call_ulen (K := K)) (by rfl) T.n_len (by decide +kernel) (pa_cons (pv 4) pa_nil)) pa_nil))) (fun _ _ => rfl)) (pg_tupU (K := K) (n := 2) rfl (pgs_cons (pg_name (i := 10) nd rfl (by first | exact Or.inl rfl | exact Or.inr rfl)) (pgs_cons (pg_name (i := 13) nd rfl (by first | exact Or.inl rfl | exact Or.inr rfl)) pgs_nil))))
      (pss_one (ps_ret (pe_tup (pa_cons pe_str (pa_cons (pv 9) (pa_cons (pv 10) (pa_cons (pe_callTy (call_utuple (K := K)) (by rfl) T.n_tuple (by decide +kernel) (pa_cons (pe_lc (own := [("_law_k", 14)]) rfl nd (pi_range1 rfl T.n_range (pa_cons (pv 13) pa_nil)) (blkOk_by (N := ["_law_state_here", "_law_names_here", "_law_boxes", "_law_lists", "_law_functions", "_law_doors", "_law_inside", "_law_kind", "_law_value_here", "_law_box", "_law_name", "_law_place", "_law_some", "_law_amount", "_law_k"]) (sc := defScope s__law_plain) (by decide +kernel)) (fun _ _ _ _ _ => (pg_name (i := 14) nd rfl (by first | exact Or.inl rfl | exact Or.inr rfl))) (fun _ _ _ _ _ => pts_nil) (fun _ _ _ _ _ => (pe_own O__law_value (by decide) hr rfl passN (pa_cons (pv 0) (pa_cons pe_int (pa_cons (pv 2) (pa_cons (pv 3) pa_nil))))))) pa_nil)) pa_nil)))))))) pss_nil)
      (pss_cons (ps_if (PW.pt (pw_and (pt_cmpR (op_ueq (K := K) hu) (pv 7) pe_int (nomark _)) (pw_and1 (pt_cmpR op_gt (pe_callB (call_ulen (K := K)) (by rfl) T.n_len (by decide +kernel) (pa_cons (pv 5) pa_nil)) pe_int (nomark _)))))
      (pss_one (ps_ret (pe_tup (pa_cons pe_str (pa_cons (pv 9) (pa_cons (pe_ix (ix_u (K := K) hu) (pv 5) (pe_own O__law_next (by decide) hr rfl (fun σ => L2N.passAt TK σ) (pa_cons (pv 0) (pa_cons (pe_callB (call_ulen (K := K)) (by rfl) T.n_len (by decide +kernel) (pa_cons (pv 5) pa_nil)) pa_nil))) (fun _ _ => rfl)) pa_nil)))))) pss_nil)
      (pss_cons (ps_if (pt_cmpR (op_ueq (K := K) hu) (pv 7) pe_int (nomark _))
      (pss_one (ps_ret (pe_tup (pa_cons pe_str (pa_cons (pv 8) pa_nil))))) pss_nil)
      (pss_cons (ps_if (PW.pt (pw_and (pt_cmpR (op_ueq (K := K) hu) (pv 7) pe_int (nomark _)) (pw_and1 (pt_u (K := K) (pv 6)))))
      (pss_one (ps_ret (pe_tup (pa_cons pe_str (pa_cons (pv 8) pa_nil))))) pss_nil)
      (pss_cons (ps_if (PW.pt (pw_and (pt_cmpR (op_ueq (K := K) hu) (pv 7) pe_int (nomark _)) (pw_and1 (pt_cmpR (op_ueq (K := K) hu) (pe_own O__law_next (by decide) hr rfl (fun σ => L2N.passAt TK σ) (pa_cons (pv 0) (pa_cons pe_int pa_nil))) pe_int (nomark _)))))
      (pss_one (ps_ret (pe_tup (pa_cons pe_str (pa_cons (pe_ix (ix_u (K := K) hu) (pe_lst (pa_cons (pe_tup (pa_cons pe_str (pa_cons (pe_own O__law_next (by decide) hr rfl (fun σ => L2N.passAt TK σ) (pa_cons (pv 0) (pa_cons pe_int pa_nil))) pa_nil))) (pa_cons (pv 8) pa_nil))) (pe_own O__law_next (by decide) hr rfl (fun σ => L2N.passAt TK σ) (pa_cons (pv 0) (pa_cons pe_int pa_nil))) (fun _ _ => rfl)) pa_nil))))) pss_nil)
      (pss_one (ps_ret (pe_tup (pa_cons pe_str (pa_cons (pv 9) (pa_cons (pv 8) pa_nil))))))))))))))))), ?_⟩
    clear nd
    obtain ⟨st, nm, m, rfl, hst, ⟨b, l, f, d, hnm, hN⟩, hm, q⟩ := h
    have keepN : ∀ {H'}, Chg [st] H H' → NmIn H' m b l f d := fun c => hN.on c (by simpa using hst.one)
    have val : ∀ {H'} (dp : Int) (c : Chg [st] H H') (hs : StAt H' st) (Q' : VK) (E' : XK), 1 ≤ dp → dp ≤ 4 → (∀ (v : V) (u : Vl) H'', Chg [st] H' H'' → StAt H'' st → Rp H'' v u.d → u.ok4 m.nms → Q' v H'') → sp_value 4 [.ref st, .int dp, .ref b, .ref l] H' Q' E' := fun dp c hs Q' E' h1 h2 hq =>
      ⟨st, dp, b, l, m.bs, m.ls, rfl, hs, h1, by omega, (keepN c).b, (keepN c).l, hm.lb, hm.ll, hm.nb, hm.nl, fun v u H'' c' s' r' o' d' => hq v u H'' c' s' r' ⟨o', by omega⟩⟩
    walk_at "vs"
    refine v_gtup (SqT.of hnm) rfl ?_
    walk_at "vs"
    refine ⟨st, 16, rfl, hst, by omega, fun kd H1 kd0 kd1 c1 hst1 => ?_⟩
    walk_at "vs"
    refine ⟨st, 3, rfl, hst1, by omega, fun a1 H2 a10 a11 c2 hst2 => ?_⟩
    have cc2 := c1.trans c2
    walk_at "vs"
    refine val _ cc2 hst2 _ _ (by omega) (by omega) fun v0 u0 H3 c3 hst3 r0 ok0 => ?_
    have cc3 := cc2.trans c3
    walk_at "vs"
    refine v_len_l (SqL.of (keepN cc3).b) ?_
    walk_at "vs"
    rw [List.length_map]
    refine v_iteD (fun h0 => ?_) (fun h0 => ?_)
    · walk_at "vs"
      refine v_newT (line9 (by show 2 ≤ 10000; decide)) fun t H4 nt c4 ht => ?_
      exact q _ (.tell u0) H4 (cc3.trans c4.of0) (hst3.on0 c4) (.tup ht (.cons (.str (wOk (by simp))) (.one (r0.on c4)))) ok0 rfl
    walk_at "vs"
    refine v_len_l (SqL.of (keepN cc3).b) ?_
    walk_at "vs"
    rw [List.length_map]
    refine ⟨st, m.bs.length, rfl, hst3, by omega, fun ix H4 i0 i1 c4 hst4 => ?_⟩
    have cc4 := cc3.trans c4
    walk_at "vs"
    refine v_ix_strs (SqL.of (keepN cc4).b) i0 i1 fun bx hbx => ?_
    have hbo := isNm_ok (hm.nb bx hbx)
    have r04 := r0.on c4
    walk_at "vp"
    refine v_ifJ (fun k H' => H' = H4 ∧ (k = true → 1 ≤ m.ls.length)) ?_ ?_ ?_
    · rintro H5 ⟨rfl, hl0⟩
      walk_at "vs"
      refine v_len_l (SqL.of (keepN cc4).l) ?_
      walk_at "vs"
      rw [List.length_map]
      refine ⟨st, m.ls.length, rfl, hst4, by have := hl0 rfl; omega, fun ix H6 i0 i1 c6 hst6 => ?_⟩
      have cc6 := cc4.trans c6
      walk_at "vs"
      refine v_ix_strs (SqL.of (keepN cc6).l) i0 i1 fun nm1 hn1 => ?_
      have hno := isNm_ok (hm.nl nm1 hn1)
      walk_at "vs"
      refine ⟨st, 4, rfl, hst6, by omega, fun a2 H7 a20 a21 c7 hst7 => ?_⟩
      walk_at "vs"
      refine v_newT (line9 (by show 2 ≤ 10000; decide)) fun t1 H8 nt1 c8 ht1 => ?_
      have cc8 := (cc6.trans c7).trans c8.of0
      have hst8 := hst7.on0 c8
      walk_at "vs"
      refine val _ cc8 hst8 _ _ (by omega) (by omega) fun v1 u1 H9 c9 hst9 r1 ok1 => ?_
      walk_at "vs"
      refine v_newL (line9 (by show 2 ≤ 10000; decide)) fun g H10 ng c10 hg => ?_
      have hst10 := hst9.on0 c10
      have ngst : g ≠ st := by rintro rfl; obtain ⟨z, e, _⟩ := hst9; rw [ng] at e; cases e
      walk_at "vs"
      refine ⟨st, 2, rfl, hst10, by omega, fun a3 H11 a30 a31 c11 hst11 => ?_⟩
      walk_at "vs"
      have c811 : Chg [st] H8 H11 := (c9.trans c10.of0).trans c11
      refine v_ix_lany (SqL.of (c11.keep hg (by simpa using ngst))) a30 (by show a3 < 2; omega) fun v2 hv => ?_
      obtain ⟨u2, r2, ok2⟩ : ∃ u2 : Vl, Rp H11 v2 u2.d ∧ u2.ok4 m.nms := by
        have := List.mem_of_getElem? hv
        simp only [List.mem_cons, List.not_mem_nil, or_false] at this
        rcases this with rfl | rfl
        · exact ⟨.num a2, .tup (c811.tup ht1) (.cons (.str (wOk (by simp))) (.one (.int _))), ⟨by omega, by omega⟩, by show 1 ≤ 4; decide⟩
        · exact ⟨u1, (r1.on c10).on c11, ok1⟩
      have cc11 := cc8.trans c811
      have r011 : Rp H11 v0 u0.d := (((r04.on c6).on c7).on c8).on c811
      walk_at "vs"
      refine v_newT (line9 (by show 3 ≤ 10000; decide)) fun t2 H12 nt2 c12 ht2 => ?_
      walk_at "vs"
      refine v_newT (line9 (by show 3 ≤ 10000; decide)) fun t3 H13 nt3 c13 ht3 => ?_
      walk_at "vs"
      refine v_newT (line9 (by show 3 ≤ 10000; decide)) fun t4 H14 nt4 c14 ht4 => ?_
      walk_at "vs"
      refine v_newT (line9 (by show 4 ≤ 10000; decide)) fun t5 H15 nt5 c15 ht5 => ?_
      walk_at "vs"
      refine v_newL (line9 (by show 4 ≤ 10000; decide)) fun g2 H16 ng2 c16 hg2 => ?_
      have c1116 : Chg [] H11 H16 := (((c12.trans c13).trans c14).trans c15).trans c16
      have hst16 := hst11.on0 c1116
      have ng2st : g2 ≠ st := by rintro rfl; obtain ⟨z, e, _⟩ := hst11.on0 (((c12.trans c13).trans c14).trans c15); rw [ng2] at e; cases e
      walk_at "vs"
      refine ⟨st, 4, rfl, hst16, by omega, fun a4 H17 a40 a41 c17 hst17 => ?_⟩
      have c1117 : Chg [st] H11 H17 := c1116.of0.trans c17
      refine v_ix_lany (SqL.of (c17.keep hg2 (by simpa using ng2st))) a40 (by show a4 < 4; omega) fun v3 hv => ?_
      have f2 := (((c13.trans c14).trans c15).trans c16).tup ht2
      have f3 := ((c14.trans c15).trans c16).tup ht3
      have f4 := (c15.trans c16).tup ht4
      have f5 := c16.tup ht5
      have := List.mem_of_getElem? hv
      simp only [List.mem_cons, List.not_mem_nil, or_false] at this
      rcases this with rfl | rfl | rfl | rfl
      · exact q _ (.push nm1 u0) H17 (cc11.trans c1117) hst17 (.tup (c17.tup f2) (.cons (.str (wOk (by simp))) (.cons (.str hno) (.one (r011.on c1117))))) ⟨hn1, ok0⟩ rfl
      · exact q _ (.push nm1 u0) H17 (cc11.trans c1117) hst17 (.tup (c17.tup f3) (.cons (.str (wOk (by simp))) (.cons (.str hno) (.one (r011.on c1117))))) ⟨hn1, ok0⟩ rfl
      · exact q _ (.pop bx nm1) H17 (cc11.trans c1117) hst17 (.tup (c17.tup f4) (.cons (.str (wOk (by simp))) (.cons (.str hbo) (.one (.str hno))))) ⟨hbx, hn1⟩ rfl
      · exact q _ (.put nm1 u2 u0) H17 (cc11.trans c1117) hst17 (.tup (c17.tup f5) (.cons (.str (wOk (by simp))) (.cons (.str hno) (.cons (r2.on c1117) (.one (r011.on c1117)))))) ⟨hn1, ok2, ok0⟩ rfl
    · rintro H5 ⟨rfl, _⟩
      walk_at "vp"
      refine v_ifJ (fun k H' => H' = H5 ∧ (k = true → 1 ≤ m.fs.length)) ?_ ?_ ?_
      · rintro H6 ⟨rfl, hf0⟩
        obtain ⟨ft, hf, hc⟩ := (keepN cc4).f
        have hfl : ft.length = m.fs.length := by have := hc.length; rw [List.length_map] at this; exact this
        walk_at "vs"
        refine v_len_l (SqL.of hf) ?_
        walk_at "vs"
        refine ⟨st, ft.length, rfl, hst4, by have := hf0 rfl; omega, fun ix H7 i0 i1 c7 hst7 => ?_⟩
        have cc7 := cc4.trans c7
        obtain ⟨ft', hf', hc'⟩ := (keepN cc7).f
        have e : ft' = ft := by
          have h1 := c7.keep hf (by simpa using (hst4.one).ne_refs hf (Cls_refs hc))
          rw [h1] at hf'; cases hf'; rfl
        subst e
        walk_at "vs"
        refine v_ix_lany (SqL.of hf') i0 i1 fun v hv => ?_
        obtain ⟨t, k, rfl, hk, ek⟩ := hc'.get hv
        rw [List.getElem?_map] at hk
        obtain ⟨⟨ti, am⟩, hp, rfl⟩ : ∃ p, m.fs[ix.toNat]? = some p ∧ k = fK p := by
          cases e : m.fs[ix.toNat]? with
          | none => rw [e] at hk; cases hk
          | some p => rw [e] at hk; cases hk; exact ⟨p, rfl, rfl⟩
        have hpm := List.mem_of_getElem? hp
        obtain ⟨n1, am0, am1⟩ := hm.nf _ hpm
        replace ek : H7 t = some (.tup [.str ti, .int am]) := ek
        refine v_gtup (SqT.of ek) rfl ?_
        dsimp only at n1 am0 am1
        walk_at "vs"
        refine v_rng1' (by omega) (by omega) ?_
        refine v_lc_range [st] (fun i acc H' => StAt H' st ∧ ∃ us : List Vl, RpA H' acc (us.map Vl.d) ∧ us.length = i ∧ ∀ u ∈ us, u.ok4 m.nms) (by
          intro b hb; rw [List.mem_singleton] at hb; subst hb
          obtain ⟨z, e, _⟩ := hst7; rw [e]; simp) (fun H' c => ⟨hst7.on0 c, [], .nil, rfl, by simp⟩) ?_ ?_
        · rintro D i acc H8 hi nD dS c8 hD ⟨hst8, us, hR, hul, huo⟩
          walk_at "vs"
          refine ⟨rfl, ?_⟩
          walk_at "vs"
          refine val _ (cc7.trans c8) hst8 _ _ (by omega) (by omega) fun v1 u1 H9 c9 hst9 r1 ok1 => ?_
          refine v_lcA c8 hD nD dS c9 (line9' (by have := hR.length; rw [List.length_map] at this; omega)) fun H10 c10 => ?_
          have Dst : st ≠ D := by rintro rfl; simp at dS
          refine ⟨hst9.on c10 (by simpa using Dst), us ++ [u1], ?_, by simp [hul], fun u hu => ?_⟩
          · rw [List.map_append]
            exact ((hR.on c9).on c10).snoc (r1.on c10)
          · rcases List.mem_append.mp hu with h | h
            · exact huo u h
            · rw [List.mem_singleton] at h; subst h; exact ok1
        · rintro D acc H8 c8 nD hD ⟨hst8, us, hR, hul, huo⟩
          walk_at "vs"
          refine v_tuple_l (SqL.of hD) fun t1 H9 nt1 c9 ht1 => ?_
          walk_at "vs"
          refine v_newT (line9 (by show 4 ≤ 10000; decide)) fun t2 H10 nt2 c10 ht2 => ?_
          have hul2 : (us.length : Int) = am := by omega
          refine q _ (.call bx ti us) H10 ((cc7.trans c8).trans (c9.trans c10).of0) ((hst8.on0 c9).on0 c10) (.tup ht2 (.cons (.str (wOk (by simp))) (.cons (.str hbo) (.cons (.str (isNm_ok n1)) (.one (.tup (c10.tup ht1) ((hR.on c9).on c10))))))) ⟨hbx, ?_, by omega, huo⟩ rfl
          show (ti, (us.length : Int)) ∈ m.fs
          rw [hul2]; exact hpm
      · rintro H6 ⟨rfl, _⟩
        walk_at "vp"
        refine v_ifJ (fun k H' => H' = H6 ∧ (k = true → 1 ≤ m.ds.length)) ?_ ?_ ?_
        · rintro H7 ⟨rfl, hd0⟩
          walk_at "vs"
          refine v_len_l (SqL.of (keepN cc4).d) ?_
          walk_at "vs"
          rw [List.length_map]
          refine ⟨st, m.ds.length, rfl, hst4, by have := hd0 rfl; omega, fun ix H8 i0 i1 c8 hst8 => ?_⟩
          have cc8 := cc4.trans c8
          walk_at "vs"
          refine v_ix_strs (SqL.of (keepN cc8).d) i0 i1 fun dr hdr => ?_
          walk_at "vs"
          refine v_newT (line9 (by show 3 ≤ 10000; decide)) fun t H9 nt c9 ht => ?_
          exact q _ (.ask bx dr) H9 (cc8.trans c9.of0) (hst8.on0 c9) (.tup ht (.cons (.str (wOk (by simp))) (.cons (.str hbo) (.one (.str (isNm_ok (hm.nd dr hdr))))))) ⟨hbx, hdr⟩ rfl
        · rintro H7 ⟨rfl, _⟩
          walk_at "vs"
          refine v_iteD (fun h7 => ?_) (fun h7 => ?_)
          · walk_at "vs"
            refine v_newT (line9 (by show 2 ≤ 10000; decide)) fun t H9 nt c9 ht => ?_
            exact q _ (.tell u0) H9 (cc4.trans c9.of0) (hst4.on0 c9) (.tup ht (.cons (.str (wOk (by simp))) (.one (r04.on c9)))) ok0 rfl
          walk_at "vp"
          refine v_ifJ (fun k H' => H' = H7 ∧ (k = true → m.ins = true)) ?_ ?_ ?_
          · rintro H8 ⟨rfl, hi⟩
            walk_at "vs"
            refine v_newT (line9 (by show 2 ≤ 10000; decide)) fun t H9 nt c9 ht => ?_
            exact q _ (.ret u0) H9 (cc4.trans c9.of0) (hst4.on0 c9) (.tup ht (.cons (.str (wOk (by simp))) (.one (r04.on c9)))) ⟨hi rfl, ok0⟩ rfl
          · rintro H8 ⟨rfl, _⟩
            walk_at "vp"
            refine v_ifJ (fun k H' => Chg [st] H8 H' ∧ StAt H' st) ?_ ?_ ?_
            · rintro H9 ⟨c9, hst9⟩
              have cc9 := cc4.trans c9
              walk_at "vs"
              refine ⟨st, 9, rfl, hst9, by omega, fun a2 H10 a20 a21 c10 hst10 => ?_⟩
              walk_at "vs"
              refine v_newT (line9 (by show 2 ≤ 10000; decide)) fun t1 H11 nt1 c11 ht1 => ?_
              walk_at "vs"
              refine v_newL (line9 (by show 2 ≤ 10000; decide)) fun g H12 ng c12 hg => ?_
              have hst12 := (hst10.on0 c11).on0 c12
              have ngst : g ≠ st := by rintro rfl; obtain ⟨z, e, _⟩ := hst10.on0 c11; rw [ng] at e; cases e
              walk_at "vs"
              refine ⟨st, 2, rfl, hst12, by omega, fun a3 H13 a30 a31 c13 hst13 => ?_⟩
              walk_at "vs"
              refine v_ix_lany (SqL.of (c13.keep hg (by simpa using ngst))) a30 (by show a3 < 2; omega) fun v2 hv => ?_
              have c913 : Chg [st] H8 H13 := (c9.trans c10).trans (c11.of0.trans (c12.of0.trans c13))
              obtain ⟨u2, r2, ok2⟩ : ∃ u2 : Vl, Rp H13 v2 u2.d ∧ u2.ok4 m.nms := by
                have := List.mem_of_getElem? hv
                simp only [List.mem_cons, List.not_mem_nil, or_false] at this
                rcases this with rfl | rfl
                · exact ⟨.num a2, .tup (c13.tup (c12.tup ht1)) (.cons (.str (wOk (by simp))) (.one (.int _))), ⟨by omega, by omega⟩, by show 1 ≤ 4; decide⟩
                · exact ⟨u0, r04.on c913, ok0⟩
              walk_at "vs"
              refine v_newT (line9 (by show 2 ≤ 10000; decide)) fun t H14 nt c14 ht => ?_
              exact q _ (.fail u2) H14 ((cc4.trans c913).trans c14.of0) (hst13.on0 c14) (.tup ht (.cons (.str (wOk (by simp))) (.one (r2.on c14)))) ok2 rfl
            · rintro H9 ⟨c9, hst9⟩
              have cc9 := cc4.trans c9
              walk_at "vs"
              refine v_newT (line9 (by show 3 ≤ 10000; decide)) fun t H10 nt c10 ht => ?_
              exact q _ (.set bx u0) H10 (cc9.trans c10.of0) (hst9.on0 c10) (.tup ht (.cons (.str (wOk (by simp))) (.cons (.str hbo) (.one ((r04.on c9).on c10))))) ⟨hbx, ok0⟩ rfl
            · intro Q' hQ'
              walk_at "vs"
              refine v_iteD (fun h9 => ?_) (fun h9 => ?_)
              · walk_at "vs"
                refine ⟨st, 2, rfl, hst4, by omega, fun a2 H10 a20 a21 c10 hst10 => ?_⟩
                walk_at "vs"
                exact hQ' _ _ ⟨c10, hst10⟩
              · walk_at "vs"
                exact hQ' _ _ ⟨.refl, hst4⟩
          · intro Q' hQ'
            walk_at "vs"
            refine v_iteD (fun h8 => ?_) (fun h8 => ?_)
            · walk_at "vs"
              exact hQ' _ _ ⟨rfl, fun z => z⟩
            · walk_at "vs"
              exact hQ' _ _ ⟨rfl, fun z => by cases z⟩
        · intro Q' hQ'
          walk_at "vs"
          refine v_iteD (fun h6 => ?_) (fun h6 => ?_)
          · walk_at "vs"
            refine v_len_l (SqL.of (keepN cc4).d) ?_
            walk_at "vs"
            rw [List.length_map]
            exact hQ' _ _ ⟨rfl, fun h => by have := of_decide_eq_true h; omega⟩
          · walk_at "vs"
            exact hQ' _ _ ⟨rfl, fun z => by cases z⟩
      · intro Q' hQ'
        walk_at "vs"
        refine v_iteD (fun h6 => ?_) (fun h6 => ?_)
        · walk_at "vs"
          obtain ⟨ft, hf, hc⟩ := (keepN cc4).f
          have hfl : ft.length = m.fs.length := by have := hc.length; rw [List.length_map] at this; exact this
          refine v_len_l (SqL.of hf) ?_
          walk_at "vs"
          exact hQ' _ _ ⟨rfl, fun h => by have := of_decide_eq_true h; omega⟩
        · walk_at "vs"
          exact hQ' _ _ ⟨rfl, fun z => by cases z⟩
    · intro Q' hQ'
      walk_at "vs"
      refine v_iteD (fun h5 => ?_) (fun h5 => ?_)
      · walk_at "vs"
        refine v_len_l (SqL.of (keepN cc4).l) ?_
        walk_at "vs"
        rw [List.length_map]
        exact hQ' _ _ ⟨rfl, fun h => by have := of_decide_eq_true h; omega⟩
      · walk_at "vs"
        exact hQ' _ _ ⟨rfl, fun z => by cases z⟩
abbrev s__law_rows : Stmt := topS 24
theorem sc__law_rows : FnScope ["_law_state_here", "_law_names_here", "_law_deep", "_law_most", "_law_left", "_law_found", "_law_k", "_law_boxes", "_law_kind", "_law_box", "_law_rows_here", "_law_value_here", "_law_less"] ["_law_state_here", "_law_names_here", "_law_deep", "_law_most", "_law_left"] (defScope s__law_rows) := ⟨rfl, rfl, rfl, by decide +kernel, rfl, by decide +kernel, by decide +kernel⟩
theorem st__law_rows (T : Txt K mg) (D : DefAt K mg "_law_rows" s__law_rows) (O__law_next : Own P w K mg base "_law_next" 1 ["_law_state_here", "_law_size"] (sp_next)) (O__law_plain : Own P w K mg base "_law_plain" 7 ["_law_state_here", "_law_names_here"] (sp_plain)) (O__law_value : Own P w K mg base "_law_value" 6 ["_law_state_here", "_law_deep", "_law_boxes", "_law_lists"] (sp_value 4)) (n : Nat) (O__law_rows : Own P w K mg base "_law_rows" (8 + n) ["_law_state_here", "_law_names_here", "_law_deep", "_law_most", "_law_left"] (sp_rows n)) : Own P w K mg base "_law_rows" (8 + n + 1) ["_law_state_here", "_law_names_here", "_law_deep", "_law_most", "_law_left"] (sp_rows (n + 1)) := by
  refine own_of D (fun _ _ _ _ _ _ us hl => match us, hl with | [_, _, _, _, _], _ => rfl) (fnW_of (k := 8 + n) (N := ["_law_state_here", "_law_names_here", "_law_deep", "_law_most", "_law_left", "_law_found", "_law_k", "_law_boxes", "_law_kind", "_law_box", "_law_rows_here", "_law_value_here", "_law_less"]) sc__law_rows (fun vs H Q E h => ?_) (fun f cdv A outer s H vs Q E hr h => ?_))
  · obtain ⟨st, nm, dp, mo, lf, m, z, rfl, _⟩ := h; rfl
  · have nd := sc__law_rows.nd
    have hu := L2H.roomH_of hr
    have TK : L2N.Takes (cxOf (L2N.CX P w) P w K mg base ["_law_state_here", "_law_names_here", "_law_deep", "_law_most", "_law_left", "_law_found", "_law_k", "_law_boxes", "_law_kind", "_law_box", "_law_rows_here", "_law_value_here", "_law_less"] "_law_rows" (defScope s__law_rows) f cdv A outer s H E) (fun cls d _ H => E cls d H) := L2N.takes_of rfl rfl rfl rfl
    refine ⟨_, (pss_cons (ps_set (i := 5) nd rfl (by first | exact Or.inl rfl | exact Or.inr rfl) (pe_lst pa_nil))
      (pss_cons (ps_for (passes_of rfl) rfl (pi_range1 rfl T.n_range (pa_cons (pe_own O__law_next (by omega) hr rfl (fun σ => L2N.passAt TK σ) (pa_cons (pv 0) (pa_cons (pe_op (op_uadd (K := K)) (pv 3) pe_int) pa_nil))) pa_nil)) (pg_name (i := 6) nd rfl (by first | exact Or.inl rfl | exact Or.inr rfl))
      (pss_cons (ps_if (pt_cmpR op_ult (pe_ix (ix_u (K := K) hu) (pv 4) pe_int (fun _ _ => rfl)) pe_int (nomark _))
      (pss_one ps_break) pss_nil)
      (pss_cons (ps_asg (pe_op op_sub (pe_ix (ix_u (K := K) hu) (pv 4) pe_int (fun _ _ => rfl)) pe_int) (pg_sub (pv 4) pe_int (set_u hu)))
      (pss_cons (ps_set (i := 7) nd rfl (by first | exact Or.inl rfl | exact Or.inr rfl) (pe_ix (ix_u (K := K) hu) (pv 1) pe_int (fun _ _ => rfl)))
      (pss_cons (ps_set (i := 8) nd rfl (by first | exact Or.inl rfl | exact Or.inr rfl) (pe_own O__law_next (by omega) hr rfl (fun σ => L2N.passAt TK σ) (pa_cons (pv 0) (pa_cons pe_int pa_nil))))
      (pss_cons (ps_if (PW.pt (pw_or (pt_cmpR op_gt (pv 2) pe_int (nomark _)) (pw_or (pt_cmpR op_gt (pv 8) pe_int (nomark _)) (pw_or1 (pt_cmpR (op_ueq (K := K) hu) (pe_callB (call_ulen (K := K)) (by rfl) T.n_len (by decide +kernel) (pa_cons (pv 7) pa_nil)) pe_int (nomark _))))))
      (pss_cons (ps_expr (pe_bm PySem.F.plainAttrs_list PySem.F.slot_list_append PySem.F.type_list_append mt_append (pv 5) (pa_cons (pe_own O__law_plain (by omega) hr rfl (fun σ => L2N.passAt TK σ) (pa_cons (pv 0) (pa_cons (pv 1) pa_nil))) pa_nil)))
      (pss_one ps_continue)) pss_nil)
      (pss_cons (ps_set (i := 9) nd rfl (by first | exact Or.inl rfl | exact Or.inr rfl) (pe_ix (ix_u (K := K) hu) (pv 7) (pe_own O__law_next (by omega) hr rfl (fun σ => L2N.passAt TK σ) (pa_cons (pv 0) (pa_cons (pe_callB (call_ulen (K := K)) (by rfl) T.n_len (by decide +kernel) (pa_cons (pv 7) pa_nil)) pa_nil))) (fun _ _ => rfl)))
      (pss_cons (ps_set (i := 10) nd rfl (by first | exact Or.inl rfl | exact Or.inr rfl) (pe_own O__law_rows (by omega) hr rfl (fun σ => L2N.passAt TK σ) (pa_cons (pv 0) (pa_cons (pv 1) (pa_cons (pe_op (op_uadd (K := K)) (pv 2) pe_int) (pa_cons pe_int (pa_cons (pv 4) pa_nil)))))))
      (pss_one (ps_if (pt_cmpR (op_ueq (K := K) hu) (pv 8) pe_int (nomark _))
      (pss_cons (ps_set (i := 11) nd rfl (by first | exact Or.inl rfl | exact Or.inr rfl) (pe_own O__law_value (by omega) hr rfl (fun σ => L2N.passAt TK σ) (pa_cons (pv 0) (pa_cons pe_int (pa_cons (pv 7) (pa_cons (pe_ix (ix_u (K := K) hu) (pv 1) pe_int (fun _ _ => rfl)) pa_nil))))))
      (pss_one (ps_expr (pe_bm PySem.F.plainAttrs_list PySem.F.slot_list_append PySem.F.type_list_append mt_append (pv 5) (pa_cons (pe_tup (pa_cons pe_str (pa_cons (pv 11) (pa_cons (pv 10) (pa_cons (pe_ix (ix_u (K := K) hu) (pe_lst (pa_cons (pe_tup pa_nil) (pa_cons (pe_own O__law_rows (by omega) hr rfl (fun σ => L2N.passAt TK σ) (pa_cons (pv 0) (pa_cons (pv 1) (pa_cons (pe_op (op_uadd (K := K)) (pv 2) pe_int) (pa_cons pe_int (pa_cons (pv 4) pa_nil)))))) pa_nil))) (pe_own O__law_next (by omega) hr rfl (fun σ => L2N.passAt TK σ) (pa_cons (pv 0) (pa_cons pe_int pa_nil))) (fun _ _ => rfl)) pa_nil))))) pa_nil))))) (pss_one (ps_if (pt_cmpR (op_ueq (K := K) hu) (pv 8) pe_int (nomark _))
      (pss_cons (ps_asg (pe_op op_sub (pe_ix (ix_u (K := K) hu) (pv 4) pe_int (fun _ _ => rfl)) pe_int) (pg_sub (pv 4) pe_int (set_u hu)))
      (pss_cons (ps_set (i := 12) nd rfl (by first | exact Or.inl rfl | exact Or.inr rfl) (pe_tup (pa_cons pe_str (pa_cons (pv 9) (pa_cons (pe_tup (pa_cons pe_str (pa_cons (pe_tup (pa_cons pe_str (pa_cons (pv 9) pa_nil))) (pa_cons (pe_tup (pa_cons pe_str (pa_cons pe_int pa_nil))) pa_nil)))) pa_nil)))))
      (pss_cons (ps_expr (pe_bm PySem.F.plainAttrs_list PySem.F.slot_list_append PySem.F.type_list_append mt_append (pv 5) (pa_cons (pe_tup (pa_cons pe_str (pa_cons (pv 9) (pa_cons (pe_tup (pa_cons pe_str (pa_cons (pe_own O__law_next (by omega) hr rfl (fun σ => L2N.passAt TK σ) (pa_cons (pv 0) (pa_cons pe_int pa_nil))) pa_nil))) pa_nil)))) pa_nil)))
      (pss_one (ps_expr (pe_bm PySem.F.plainAttrs_list PySem.F.slot_list_append PySem.F.type_list_append mt_append (pv 5) (pa_cons (pe_tup (pa_cons pe_str (pa_cons (pe_tup (pa_cons pe_str (pa_cons (pv 9) pa_nil))) (pa_cons (pe_ix (ix_u (K := K) hu) (pe_lst (pa_cons (pe_op (op_uadd (K := K)) (pe_tup (pa_cons (pv 12) pa_nil)) (pv 10)) (pa_cons (pe_op (op_uadd (K := K)) (pv 10) (pe_tup (pa_cons (pv 12) pa_nil))) pa_nil))) (pe_own O__law_next (by omega) hr rfl (fun σ => L2N.passAt TK σ) (pa_cons (pv 0) (pa_cons pe_int pa_nil))) (fun _ _ => rfl)) pa_nil)))) pa_nil))))))) (pss_one (ps_expr (pe_bm PySem.F.plainAttrs_list PySem.F.slot_list_append PySem.F.type_list_append mt_append (pv 5) (pa_cons (pe_tup (pa_cons pe_str (pa_cons (pv 10) (pa_cons (pv 9) (pa_cons (pe_own O__law_rows (by omega) hr rfl (fun σ => L2N.passAt TK σ) (pa_cons (pv 0) (pa_cons (pv 1) (pa_cons (pe_op (op_uadd (K := K)) (pv 2) pe_int) (pa_cons pe_int (pa_cons (pv 4) pa_nil)))))) pa_nil))))) pa_nil))))))))))))))))
      (pss_one (ps_ret (pe_callTy (call_utuple (K := K)) (by rfl) T.n_tuple (by decide +kernel) (pa_cons (pv 5) pa_nil)))))), ?_⟩
    clear nd
    obtain ⟨st, nm, dp, mo, lf, m, z, rfl, hst, hN, hm, hz, nlf, d1, d4, dn, mo0, mo1, z1, q⟩ := h
    walk_at "vs"
    refine v_newL (line9 (by show 0 ≤ 10000; decide)) fun fo H1 nfo c1 hfo => ?_
    have fost : fo ≠ st := by rintro rfl; obtain ⟨z, e, _⟩ := hst; rw [nfo] at e; cases e
    have folf : fo ≠ lf := by rintro rfl; unfold LfAt at hz; rw [nfo] at hz; cases hz
    walk_at "vs"
    refine ⟨st, mo + 1, rfl, hst.on0 c1, by omega, fun am H2 am0 am1 c2 hst2 => ?_⟩
    have cc2 : Chg [st, lf] H H2 := c1.of0.trans (c2.mono (by simp))
    have one2 : ∀ {H'}, StAt H' st → (∃ z', LfAt H' lf z') → ∀ s ∈ [st, lf], OneI H' s := by
      intro H' h1 h2 s hs
      simp only [List.mem_cons, List.not_mem_nil, or_false] at hs
      rcases hs with rfl | rfl
      · exact h1.one
      · obtain ⟨z', h2⟩ := h2; exact ⟨z', h2⟩
    have one0 := one2 hst ⟨z, hz⟩
    have nmK : ∀ {H'}, Chg [st, lf] H H' → NmAt H' nm m := fun c => hN.on c one0
    have hz2 : LfAt H2 lf z := c2.keep (c1.at hz) (by simpa using nlf)
    have hfo2 : H2 fo = some (.lst []) := c2.keep hfo (by simpa using fost)
    walk_at "vs"
    refine v_rng1' (by omega) (by omega) ?_
    refine v_for_range (fun i σ H' => ∃ (v5 v6 v7 v8 v9 v10 v11 : Option V) (xs : List V) (rs : List Rw) (z' : Int), σ = [some (.ref st), some (.ref nm), some (.int dp), some (.int mo), some (.ref lf), some (.ref fo), v5, v6, v7, v8, v9, v10, v11] ∧ Chg [st, lf, fo] H2 H' ∧ StAt H' st ∧
        LfAt H' lf z' ∧ min z (2 * dp - 6) ≤ z' ∧ z' ≤ z ∧ (Rw.cnts rs : Int) ≤ z - z' ∧ H' fo = some (.lst xs) ∧ RpA H' xs (Rw.ds rs) ∧ Rw.oks m.nms rs ∧ (Rw.dpts rs : Int) ≤ 5 - dp)
      ⟨none, none, none, none, none, none, none, [], [], z, rfl, .refl, hst2, hz2, by omega, Int.le_refl _, by simp [Rw.cnts], hfo2, .nil, trivial, by show (0 : Int) ≤ _; omega⟩ ?_ ?_
    · rintro i σ H3 hi ⟨v5, v6, v7, v8, v9, v10, v11, xs, rs, z', rfl, c3, hst3, hz3, z'0, z'1, zc, hfo3, hR, hok, hdp⟩
      have hlen : xs.length ≤ 60 := by
        have h1 := hR.length
        rw [Rw.ds_eq, List.length_map] at h1
        have h2 := Rw.len_cnts rs
        omega
      have toS : ∀ {H'}, Chg [st, lf, fo] H2 H' → Chg [st, lf] H H' := fun c => cc2.trans' c fun l hm => by
        simp only [List.mem_cons, List.not_mem_nil, or_false] at hm
        rcases hm with rfl | rfl | rfl
        · exact .inl (by simp)
        · exact .inl (by simp)
        · exact .inr nfo
      walk_at "vs"
      refine v_ix_l (SqL.of hz3) rfl ?_
      walk_at "vs"
      refine v_iteD (fun hz4 => ?_) (fun hz4 => ?_)
      · walk_at "vs"
        have hp : Rp H3 (.ref fo) (.tup (Rw.ds rs)) → True := fun _ => trivial
        refine v_tuple_l (SqL.of hfo3) fun t H4 nt c4 ht => ?_
        exact q _ rs z' H4 ((toS c3).trans c4.of0) (hst3.on0 c4) (c4.at hz3) z'0 z'1 zc (.tup ht (hR.on c4)) hok hdp
      walk_at "vs"
      refine v_ix_l (SqL.of hz3) rfl ?_
      walk_at "vs"
      refine v_set_l hz3 rfl fun H4 c4 hz4' => ?_
      have hz4 : LfAt H4 lf (z' - 2) := hz4'
      have hst4 : StAt H4 st := hst3.on c4 (by simpa using fun e => nlf e.symm)
      have c34 : Chg [st, lf, fo] H2 H4 := c3.trans (c4.mono (by simp))
      obtain ⟨b, l, f, d, hnm, hNI⟩ := nmK (toS c34)
      walk_at "vs"
      refine v_ix_t (SqT.of hnm) rfl ?_
      walk_at "vs"
      refine ⟨st, 9, rfl, hst4, by omega, fun kd H5 kd0 kd1 c5 hst5 => ?_⟩
      have c35 : Chg [st, lf, fo] H2 H5 := c34.trans (c5.mono (by simp))
      have hz5 : LfAt H5 lf (z' - 2) := c5.keep hz4 (by simpa using nlf)
      have keepN : ∀ {H'}, Chg [st, lf, fo] H2 H' → NmIn H' m b l f d := fun c => by
        obtain ⟨b', l', f', d', e', h'⟩ := nmK (toS c)
        have e0 : H nm = some (.tup [.ref b, .ref l, .ref f, .ref d, .bl m.ins]) := by
          obtain ⟨b0, l0, f0, d0, e0, _⟩ := hN
          have := (toS c34).tup e0
          rw [hnm] at this; cases this; exact e0
        have := (toS c).tup e0
        rw [e'] at this; cases this; exact h'
      have hfo5 : H5 fo = some (.lst xs) := c5.keep (c4.keep hfo3 (by simpa using folf)) (by simpa using fost)
      have hR5 := (hR.on c4).on c5
      have sub : ∀ {H'} (mo' : Int) (zz : Int) (c : Chg [st, lf, fo] H2 H') (hs : StAt H' st) (hz' : LfAt H' lf zz) (Q' : VK) (E' : XK), 0 ≤ mo' → mo' ≤ 6 → dp + 1 ≤ 4 → zz ≤ 56 →
          (∀ (v : V) (rs : List Rw) z'' H'', Chg [st, lf] H' H'' → StAt H'' st → LfAt H'' lf z'' → min zz (2 * (dp + 1) - 6) ≤ z'' → z'' ≤ zz → (Rw.cnts rs : Int) ≤ zz - z'' → Rp H'' v (.tup (Rw.ds rs)) → Rw.oks m.nms rs → (Rw.dpts rs : Int) ≤ 4 - dp → Q' v H'') →
          sp_rows n [.ref st, .ref nm, .int (dp + 1), .int mo', .ref lf] H' Q' E' := fun mo' zz c hs hz' Q' E' h1 h2 h3 h5 hq =>
        ⟨st, nm, dp + 1, mo', lf, m, zz, rfl, hs, nmK (toS c), hm, hz', nlf, by omega, h3, by omega, h1, h2, h5, fun v rs z'' H'' a1 a2 a3 a4 a5 a6 a7 a8 a9 => hq v rs z'' H'' a1 a2 a3 a4 a5 a6 a7 a8 (by omega)⟩
      have put : ∀ {H6 : Hp} (v : V) (r : Rw) (zz : Int) (Q' : VK), Chg [st, lf, fo] H2 H6 → StAt H6 st → LfAt H6 lf zz → (∃ ys rs', H6 fo = some (.lst ys) ∧ RpA H6 ys (Rw.ds rs') ∧ Rw.oks m.nms rs' ∧ (Rw.dpts rs' : Int) ≤ 5 - dp ∧ ys.length ≤ 1000 ∧
          (Rp H6 v r.d ∧ ∀ H7, Chg [fo] H6 H7 → H7 fo = some (.lst (ys ++ [v])) → RpA H7 (ys ++ [v]) (Rw.ds (rs' ++ [r])) → Q' .non H7)) → rAppend (.ref fo) [v] H6 Q' := by
        rintro H6 v r zz Q' c6 hs6 hz6 ⟨ys, rs', h1, h2, h3, h4, h5, h6, h7⟩
        refine v_append h1 (line9' (by omega)) fun H7 c7 h8 => h7 H7 c7 h8 ?_
        rw [Rw.ds_app]
        exact (h2.snoc h6).on c7
      walk_at "vp"
      refine v_ifJ (fun k H' => H' = H5 ∧ (k = false → dp ≤ 3 ∧ kd ≤ 2 ∧ 1 ≤ m.bs.length)) ?_ ?_ ?_
      · rintro H6 ⟨rfl, _⟩
        walk_at "vs"
        refine v_bml (SqL.of hfo5) ?_
        walk_at "vs"
        refine ⟨st, nm, m, rfl, hst5, nmK (toS c35), hm, fun v r H7 c7 hst7 r7 ok7 dpt7 => ?_⟩
        have c37 := c35.trans (c7.mono (by simp))
        have hc1 : r.cnt = 1 := Rw.cnt_plain dpt7
        walk_at "vs"
        refine put v r (z' - 2) _ c37 hst7 (c7.keep hz5 (by simpa using nlf)) ⟨xs, rs, c7.keep hfo5 (by simpa using fost), hR5.on c7, hok, hdp, by omega, r7, fun H8 c8 hfo8 hR8 => ?_⟩
        walk_at "vs"
        refine ⟨_, _, _, _, _, _, _, xs ++ [v], rs ++ [r], z' - 2, rfl, c37.trans (c8.mono (by simp)), hst7.on c8 (by simpa using fun e => fost e.symm), c8.keep (c7.keep hz5 (by simpa using nlf)) (by simpa using fun e => folf e.symm), by omega, by omega, ?_, hfo8, hR8, Rw.oks_app hok ⟨ok7, trivial⟩, ?_⟩
        · rw [Rw.cnts_app]; simp only [Rw.cnts]; omega
        · rw [Rw.dpts_app]; simp only [Rw.dpts]; omega
      · rintro H6 ⟨rfl, hk⟩
        obtain ⟨dp3, kd2, hb1⟩ := hk rfl
        walk_at "vs"
        refine v_len_l (SqL.of (keepN c35).b) ?_
        walk_at "vs"
        rw [List.length_map]
        refine ⟨st, m.bs.length, rfl, hst5, by omega, fun ix H7 i0 i1 c7 hst7 => ?_⟩
        have c37 : Chg [st, lf, fo] H2 H7 := c35.trans (c7.mono (by simp))
        have hz7 : LfAt H7 lf (z' - 2) := c7.keep hz5 (by simpa using nlf)
        walk_at "vs"
        refine v_ix_strs (SqL.of (keepN c37).b) i0 i1 fun bx hbx => ?_
        have hbo := isNm_ok (hm.nb bx hbx)
        walk_at "vs"
        refine sub 3 (z' - 2) c37 hst7 hz7 _ _ (by omega) (by omega) (by omega) (by omega) fun v1 r1 z2 H8 c8 hst8 hz8 z20 z21 zc1 rp1 ok1 dp1 => ?_
        have c38 : Chg [st, lf, fo] H2 H8 := c37.trans (c8.mono (by simp))
        have noS : ∀ {H' H''}, Chg [st, lf] H' H'' → H' fo = some (.lst xs) → H'' fo = some (.lst xs) := fun c h => c.keep h (by simp only [List.mem_cons, List.not_mem_nil, or_false, not_or]; exact ⟨fost, folf⟩)
        have hfo8 : H8 fo = some (.lst xs) := noS c8 (c7.keep hfo5 (by simpa using fost))
        have hR8 := (hR5.on c7).on c8
        walk_at "vs"
        refine v_iteD (fun k0 => ?_) (fun k0 => ?_)
        · walk_at "vs"
          refine v_ix_t (SqT.of ((toS c38).tup (by
            obtain ⟨b0, l0, f0, d0, e0, _⟩ := hN
            have := (toS c34).tup e0
            rw [hnm] at this; cases this; exact e0))) rfl ?_
          walk_at "vs"
          have hNI8 := keepN c38
          refine ⟨st, 2, b, l, m.bs, m.ls, rfl, hst8, by omega, by omega, hNI8.b, hNI8.l, hm.lb, hm.ll, hm.nb, hm.nl, fun v2 u2 H9 c9 hst9 rp2 ok2 dp2 => ?_⟩
          have c39 : Chg [st, lf, fo] H2 H9 := c38.trans (c9.mono (by simp))
          have hz9 : LfAt H9 lf z2 := c9.keep hz8 (by simpa using nlf)
          have hfo9 : H9 fo = some (.lst xs) := c9.keep hfo8 (by simpa using fost)
          walk_at "vs"
          refine v_bml (SqL.of hfo9) ?_
          walk_at "vs"
          refine v_newT (line9 (by show 0 ≤ 10000; decide)) fun te H10 nte c10 hte => ?_
          walk_at "vs"
          refine sub 2 z2 (c39.trans c10.of0) (hst9.on0 c10) (c10.at hz9) _ _ (by omega) (by omega) (by omega) (by omega) fun v3 r3 z3 H11 c11 hst11 hz11 z30 z31 zc3 rp3 ok3 dp3' => ?_
          walk_at "vs"
          refine v_newL (line9 (by show 2 ≤ 10000; decide)) fun g H12 ng c12 hg => ?_
          have hst12 := hst11.on0 c12
          have ngst : g ≠ st := by rintro rfl; obtain ⟨z, e, _⟩ := hst11; rw [ng] at e; cases e
          walk_at "vs"
          refine ⟨st, 2, rfl, hst12, by omega, fun a3 H13 a30 a31 c13 hst13 => ?_⟩
          walk_at "vs"
          refine v_ix_lany (SqL.of (c13.keep hg (by simpa using ngst))) a30 (by show a3 < 2; omega) fun v4 hv => ?_
          have c1113 : Chg [st] H11 H13 := c12.of0.trans c13
          obtain ⟨r4, rp4, ok4, dp4, zc4⟩ : ∃ r4 : List Rw, Rp H13 v4 (.tup (Rw.ds r4)) ∧ Rw.oks m.nms r4 ∧ (Rw.dpts r4 : Int) ≤ 4 - dp ∧ (Rw.cnts r4 : Int) ≤ z2 - z3 := by
            have := List.mem_of_getElem? hv
            simp only [List.mem_cons, List.not_mem_nil, or_false] at this
            rcases this with rfl | rfl
            · exact ⟨[], .tup (c1113.tup (c11.tup hte)) .nil, trivial, by simp only [Rw.dpts]; omega, by simp only [Rw.cnts]; omega⟩
            · exact ⟨r3, rp3.on c1113, ok3, dp3', zc3⟩
          walk_at "vs"
          refine v_newT (line9 (by show 4 ≤ 10000; decide)) fun t H14 nt c14 ht => ?_
          walk_at "vs"
          have c914 : Chg [st, lf] H9 H14 := c10.of0.trans (c11.trans ((c1113.mono (by simp)).trans c14.of0))
          have c314 : Chg [st, lf, fo] H2 H14 := c39.trans (c914.mono (by simp))
          have hst14 := hst13.on0 c14
          have hz14 : LfAt H14 lf z3 := c14.at (c1113.keep hz11 (by simpa using nlf))
          have rr : Rp H14 (.ref t) (Rw.ife u2 r1 r4).d := .tup ht (.cons (.str (wOk (by simp))) (.cons (rp2.on c914) (.cons ((rp1.on c9).on c914) (.one (rp4.on c14)))))
          refine put (.ref t) (.ife u2 r1 r4) z3 _ c314 hst14 hz14 ⟨xs, rs, noS c914 hfo9, (hR8.on c9).on c914, hok, hdp, by omega, rr, fun H15 c15 hfo15 hR15 => ?_⟩
          refine ⟨_, _, _, _, _, _, _, _, _, z3, rfl, c314.trans (c15.mono (by simp)), hst14.on c15 (by simpa using fun e => fost e.symm), c15.keep hz14 (by simpa using fun e => folf e.symm), by omega, by omega, ?_, hfo15, hR15, Rw.oks_app hok ⟨⟨⟨ok2, by omega⟩, ok1, ok4⟩, trivial⟩, ?_⟩
          · rw [Rw.cnts_app]; simp only [Rw.cnts, Rw.cnt]; omega
          · rw [Rw.dpts_app]; simp only [Rw.dpts, Rw.dpt]; omega
        walk_at "vs"
        refine v_iteD (fun k1 => ?_) (fun k1 => ?_)
        · walk_at "vs"
          refine v_ix_l (SqL.of hz8) rfl ?_
          walk_at "vs"
          refine v_set_l hz8 rfl fun H9 c9 hz9' => ?_
          have hz9 : LfAt H9 lf (z2 - 2) := hz9'
          have hst9 : StAt H9 st := hst8.on c9 (by simpa using fun e => nlf e.symm)
          have c39 : Chg [st, lf, fo] H2 H9 := c38.trans (c9.mono (by simp))
          have hfo9 : H9 fo = some (.lst xs) := c9.keep hfo8 (by simpa using folf)
          walk_at "vs"
          refine v_newT (line9 (by show 2 ≤ 10000; decide)) fun t1 H10 nt1 c10 ht1 => ?_
          walk_at "vs"
          refine v_newT (line9 (by show 2 ≤ 10000; decide)) fun t2 H11 nt2 c11 ht2 => ?_
          walk_at "vs"
          refine v_newT (line9 (by show 3 ≤ 10000; decide)) fun t3 H12 nt3 c12 ht3 => ?_
          walk_at "vs"
          refine v_newT (line9 (by show 3 ≤ 10000; decide)) fun t4 H13 nt4 c13 ht4 => ?_
          have c913 : Chg [] H9 H13 := ((c10.trans c11).trans c12).trans c13
          have f1 := ((c11.trans c12).trans c13).tup ht1
          have f2 := (c12.trans c13).tup ht2
          have f3 := c13.tup ht3
          have one : PyData.strOk (Str.ofString "minus") = true := wOk (by simp)
          have less : Rp H13 (.ref t4) (Rw.set bx (.bin "minus" (.box bx) (.num 1))).d := .tup ht4 (.cons (.str (wOk (by simp))) (.cons (.str hbo) (.one (.tup f3 (.cons (.str one) (.cons (.tup f1 (.cons (.str (wOk (by simp))) (.one (.str hbo)))) (.one (.tup f2 (.cons (.str (wOk (by simp))) (.one (.int 1)))))))))))
          have lessok : (Rw.set bx (.bin "minus" (.box bx) (.num 1))).ok m.nms := ⟨hbx, ⟨by simp [binW], hbx, by show (0 : Int) ≤ 1 ∧ (1 : Int) < 1000000; decide⟩, by show 2 ≤ 4; decide⟩
          have hfo13 := c913.at hfo9
          walk_at "vs"
          refine v_bml (SqL.of hfo13) ?_
          walk_at "vs"
          refine ⟨st, 5, rfl, hst9.on0 c913, by omega, fun a1 H14 a10 a11 c14 hst14 => ?_⟩
          walk_at "vs"
          refine v_newT (line9 (by show 2 ≤ 10000; decide)) fun t5 H15 nt5 c15 ht5 => ?_
          walk_at "vs"
          refine v_newT (line9 (by show 3 ≤ 10000; decide)) fun t6 H16 nt6 c16 ht6 => ?_
          have c1316 : Chg [st] H13 H16 := c14.trans (c15.trans c16).of0
          have c316 : Chg [st, lf, fo] H2 H16 := (c39.trans c913.of0).trans (c1316.mono (by simp))
          have hst16 := hst14.on0 (c15.trans c16)
          have hz16 : LfAt H16 lf (z2 - 2) := c1316.keep (c913.at hz9) (by simpa using nlf)
          have hfo16 := c1316.keep hfo13 (by simpa using fost)
          have rs1 : Rp H16 (.ref t6) (Rw.set bx (.num a1)).d := .tup ht6 (.cons (.str (wOk (by simp))) (.cons (.str hbo) (.one (.tup (c16.tup ht5) (.cons (.str (wOk (by simp))) (.one (.int _)))))))
          have c816 : Chg [st, lf] H8 H16 := (c9.mono (by simp)).trans (c913.of0.trans (c1316.mono (by simp)))
          walk_at "vs"
          refine put (.ref t6) (.set bx (.num a1)) (z2 - 2) _ c316 hst16 hz16 ⟨xs, rs, hfo16, hR8.on c816, hok, hdp, by omega, rs1, fun H17 c17 hfo17 hR17 => ?_⟩
          have c317 : Chg [st, lf, fo] H2 H17 := c316.trans (c17.mono (by simp))
          have hst17 : StAt H17 st := hst16.on c17 (by simpa using fun e => fost e.symm)
          have hz17 : LfAt H17 lf (z2 - 2) := c17.keep hz16 (by simpa using fun e => folf e.symm)
          have ok17 : Rw.oks m.nms (rs ++ [.set bx (.num a1)]) := Rw.oks_app hok ⟨⟨hbx, ⟨a10, by omega⟩, by show 1 ≤ 4; decide⟩, trivial⟩
          walk_at "vs"
          refine v_bml (SqL.of hfo17) ?_
          walk_at "vs"
          refine v_newT (line9 (by show 2 ≤ 10000; decide)) fun t7 H18 nt7 c18 ht7 => ?_
          walk_at "vs"
          refine v_newT (line9 (by show 1 ≤ 10000; decide)) fun t8 H19 nt8 c19 ht8 => ?_
          have c819 : Chg [st, lf, fo] H8 H19 := ((c816.mono (by simp)).trans (c17.mono (by simp))).trans (c18.trans c19).of0
          obtain ⟨ar, xr, rfl, har, hxr⟩ := (rp1.on c819).tupI
          have hxl : xr.length ≤ 60 := by
            have h1 := hxr.length
            rw [Rw.ds_eq, List.length_map] at h1
            have := Rw.len_cnts r1
            omega
          walk_at "vs"
          refine v_add_tt ht8 har (line9 (by show 1 + xr.length ≤ 10000; omega)) fun t9 H20 c20 ht9 => ?_
          walk_at "vs"
          refine v_newT (line9 (by show 1 ≤ 10000; decide)) fun t10 H21 nt10 c21 ht10 => ?_
          walk_at "vs"
          refine v_add_tt ((c20.trans c21).tup har) ht10 (line9 (by show xr.length + 1 ≤ 10000; omega)) fun t11 H22 c22 ht11 => ?_
          walk_at "vs"
          refine v_newL (line9 (by show 2 ≤ 10000; decide)) fun g H23 ng c23 hg => ?_
          have c1723 : Chg [] H17 H23 := (c18.trans c19).trans ((c20.trans c21).trans (c22.trans c23))
          have hst23 := hst17.on0 c1723
          have ngst : g ≠ st := by rintro rfl; obtain ⟨z, e, _⟩ := hst17.on0 ((c18.trans c19).trans ((c20.trans c21).trans c22)); rw [ng] at e; cases e
          walk_at "vs"
          refine ⟨st, 2, rfl, hst23, by omega, fun a3 H24 a30 a31 c24 hst24 => ?_⟩
          walk_at "vs"
          refine v_ix_lany (SqL.of (c24.keep hg (by simpa using ngst))) a30 (by show a3 < 2; omega) fun v4 hv => ?_
          have c1724 : Chg [st] H17 H24 := c1723.of0.trans c24
          have c1924 : Chg [st] H19 H24 := ((c20.trans c21).trans (c22.trans c23)).of0.trans c24
          have less24 : Rp H24 (.ref t4) (Rw.set bx (.bin "minus" (.box bx) (.num 1))).d := ((less.on c1316).on c17).on c1724
          have hxr24 := hxr.on c1924
          obtain ⟨r4, rp4, ok4, dp4, zc4⟩ : ∃ r4 : List Rw, Rp H24 v4 (.tup (Rw.ds r4)) ∧ Rw.oks m.nms r4 ∧ (Rw.dpts r4 : Int) ≤ 4 - dp ∧ (Rw.cnts r4 : Int) ≤ (Rw.cnts r1 : Int) + 1 := by
            have := List.mem_of_getElem? hv
            simp only [List.mem_cons, List.not_mem_nil, or_false] at this
            rcases this with rfl | rfl
            · refine ⟨[.set bx (.bin "minus" (.box bx) (.num 1))] ++ r1, .tup (((c21.trans c22).trans c23).of0.trans c24 |>.tup ht9) ?_, Rw.oks_app ⟨lessok, trivial⟩ ok1, ?_, ?_⟩
              · rw [Rw.ds_app]; exact (RpA.one less24).app hxr24
              · rw [Rw.dpts_app]; simp only [Rw.dpts, Rw.dpt]; omega
              · rw [Rw.cnts_app]; simp only [Rw.cnts, Rw.cnt]; omega
            · refine ⟨r1 ++ [.set bx (.bin "minus" (.box bx) (.num 1))], .tup (c23.of0.trans c24 |>.tup ht11) ?_, Rw.oks_app ok1 ⟨lessok, trivial⟩, ?_, ?_⟩
              · rw [Rw.ds_app]; exact hxr24.snoc less24
              · rw [Rw.dpts_app]; simp only [Rw.dpts, Rw.dpt]; omega
              · rw [Rw.cnts_app]; simp only [Rw.cnts, Rw.cnt]; omega
          walk_at "vs"
          refine v_newT (line9 (by show 3 ≤ 10000; decide)) fun t12 H25 nt12 c25 ht12 => ?_
          walk_at "vs"
          have c1725 : Chg [st] H17 H25 := c1724.trans c25.of0
          have c325 : Chg [st, lf, fo] H2 H25 := c317.trans (c1725.mono (by simp))
          have hst25 := hst24.on0 c25
          have hz25 : LfAt H25 lf (z2 - 2) := c1725.keep hz17 (by simpa using nlf)
          have rr : Rp H25 (.ref t12) (Rw.whl (.box bx) r4).d := .tup ht12 (.cons (.str (wOk (by simp))) (.cons (.tup ((((c19.trans c20).trans (c21.trans (c22.trans c23))).of0.trans c24).trans c25.of0 |>.tup ht7) (.cons (.str (wOk (by simp))) (.one (.str hbo)))) (.one (rp4.on c25))))
          refine put (.ref t12) (.whl (.box bx) r4) (z2 - 2) _ c325 hst25 hz25 ⟨_, _, c1725.keep hfo17 (by simpa using fost), hR17.on c1725, ok17, ?_, ?_, rr, fun H26 c26 hfo26 hR26 => ?_⟩
          · rw [Rw.dpts_app]; simp only [Rw.dpts, Rw.dpt]; omega
          · rw [List.length_append]; show xs.length + 1 ≤ 1000; omega
          refine ⟨_, _, _, _, _, _, _, _, _, z2 - 2, rfl, c325.trans (c26.mono (by simp)), hst25.on c26 (by simpa using fun e => fost e.symm), c26.keep hz25 (by simpa using fun e => folf e.symm), by omega, by omega, ?_, hfo26, hR26, Rw.oks_app ok17 ⟨⟨⟨hbx, by show 1 ≤ 4; decide⟩, ok4⟩, trivial⟩, ?_⟩
          · rw [Rw.cnts_app, Rw.cnts_app]; simp only [Rw.cnts, Rw.cnt]; omega
          · rw [Rw.dpts_app, Rw.dpts_app]; simp only [Rw.dpts, Rw.dpt]; omega
        · walk_at "vs"
          refine v_bml (SqL.of hfo8) ?_
          walk_at "vs"
          refine sub 2 z2 c38 hst8 hz8 _ _ (by omega) (by omega) (by omega) (by omega) fun v3 r3 z3 H9 c9 hst9 hz9 z30 z31 zc3 rp3 ok3 dp3' => ?_
          walk_at "vs"
          refine v_newT (line9 (by show 4 ≤ 10000; decide)) fun t H10 nt c10 ht => ?_
          walk_at "vs"
          have c810 : Chg [st, lf] H8 H10 := c9.trans c10.of0
          have c310 : Chg [st, lf, fo] H2 H10 := c38.trans (c810.mono (by simp))
          have hst10 := hst9.on0 c10
          have hz10 : LfAt H10 lf z3 := c10.at hz9
          have rr : Rp H10 (.ref t) (Rw.tr r1 bx r3).d := .tup ht (.cons (.str (wOk (by simp))) (.cons (rp1.on c810) (.cons (.str hbo) (.one (rp3.on c10)))))
          refine put (.ref t) (.tr r1 bx r3) z3 _ c310 hst10 hz10 ⟨xs, rs, noS c810 hfo8, hR8.on c810, hok, hdp, by omega, rr, fun H15 c15 hfo15 hR15 => ?_⟩
          refine ⟨_, _, _, _, _, _, _, _, _, z3, rfl, c310.trans (c15.mono (by simp)), hst10.on c15 (by simpa using fun e => fost e.symm), c15.keep hz10 (by simpa using fun e => folf e.symm), by omega, by omega, ?_, hfo15, hR15, Rw.oks_app hok ⟨⟨hbx, ok1, ok3⟩, trivial⟩, ?_⟩
          · rw [Rw.cnts_app]; simp only [Rw.cnts, Rw.cnt]; omega
          · rw [Rw.dpts_app]; simp only [Rw.dpts, Rw.dpt]; omega
      · intro Q' hQ'
        walk_at "vs"
        refine v_iteD (fun h5 => ?_) (fun h5 => ?_)
        · walk_at "vs"
          exact hQ' _ _ ⟨rfl, fun z => by cases z⟩
        · walk_at "vs"
          refine v_iteD (fun h6 => ?_) (fun h6 => ?_)
          · walk_at "vs"
            exact hQ' _ _ ⟨rfl, fun z => by cases z⟩
          · walk_at "vs"
            refine v_len_l (SqL.of (keepN c35).b) ?_
            walk_at "vs"
            rw [List.length_map]
            exact hQ' _ _ ⟨rfl, fun h => by have := of_decide_eq_false h; omega⟩
    · rintro σ H3 ⟨v5, v6, v7, v8, v9, v10, v11, xs, rs, z', rfl, c3, hst3, hz3, z'0, z'1, zc, hfo3, hR, hok, hdp⟩
      walk_at "vs"
      refine v_tuple_l (SqL.of hfo3) fun t H4 nt c4 ht => ?_
      refine q _ rs z' H4 ((cc2.trans' c3 fun l hm => ?_).trans c4.of0) (hst3.on0 c4) (c4.at hz3) z'0 z'1 zc (.tup ht (hR.on c4)) hok hdp
      simp only [List.mem_cons, List.not_mem_nil, or_false] at hm
      rcases hm with rfl | rfl | rfl
      · exact .inl (by simp)
      · exact .inl (by simp)
      · exact .inr nfo
theorem ok__law_rows (T : Txt K mg) (D : DefAt K mg "_law_rows" s__law_rows) (O__law_next : Own P w K mg base "_law_next" 1 ["_law_state_here", "_law_size"] (sp_next)) (O__law_plain : Own P w K mg base "_law_plain" 7 ["_law_state_here", "_law_names_here"] (sp_plain)) (O__law_value : Own P w K mg base "_law_value" 6 ["_law_state_here", "_law_deep", "_law_boxes", "_law_lists"] (sp_value 4)) : ∀ n : Nat, Own P w K mg base "_law_rows" (8 + n) ["_law_state_here", "_law_names_here", "_law_deep", "_law_most", "_law_left"] (sp_rows n)
  | 0 => own_of (k := 8) D (fun _ _ _ _ _ _ us hl => match us, hl with | [_, _, _, _, _], _ => rfl) (fnW_of (N := ["_law_state_here", "_law_names_here", "_law_deep", "_law_most", "_law_left", "_law_found", "_law_k", "_law_boxes", "_law_kind", "_law_box", "_law_rows_here", "_law_value_here", "_law_less"]) sc__law_rows (fun vs H Q E h => ((show ∀ vs H Q E, ¬ (sp_rows 0 : Sp) vs H Q E from fun vs H Q E => by rintro ⟨st, nm, dp, mo, lf, m, z, rfl, _, _, _, _, _, h1, h2, h3, _⟩; omega) vs H Q E h).elim) (fun f cdv A outer s H vs Q E hr h => ((show ∀ vs H Q E, ¬ (sp_rows 0 : Sp) vs H Q E from fun vs H Q E => by rintro ⟨st, nm, dp, mo, lf, m, z, rfl, _, _, _, _, _, h1, h2, h3, _⟩; omega) vs H Q E h).elim))
  | n + 1 => st__law_rows T D O__law_next O__law_plain O__law_value n (ok__law_rows T D O__law_next O__law_plain O__law_value n)
abbrev s__law_program : Stmt := topS 25
theorem sc__law_program : FnScope ["_law_state_here", "_law_most", "_law_names_here", "_law_boxes", "_law_lists", "_law_titles", "_law_doors", "_law_amounts", "_law_title", "_law_left", "_law_functions", "_law_amount", "_law_params", "_law_owns", "_law_inner", "_law_rows_here", "_law_pairs", "_law_box", "_law_things", "_law_k", "_law_name"] ["_law_state_here", "_law_most"] (defScope s__law_program) := ⟨rfl, rfl, rfl, by decide +kernel, rfl, by decide +kernel, by decide +kernel⟩
theorem ok__law_program (T : Txt K mg) (D : DefAt K mg "_law_program" s__law_program) (O__law_names : Own P w K mg base "_law_names" 2 ["_law_state_here", "_law_amount"] (sp_names)) (O__law_next : Own P w K mg base "_law_next" 1 ["_law_state_here", "_law_size"] (sp_next)) (O__law_rows : Own P w K mg base "_law_rows" 12 ["_law_state_here", "_law_names_here", "_law_deep", "_law_most", "_law_left"] (sp_rows 4)) (O__law_value : Own P w K mg base "_law_value" 6 ["_law_state_here", "_law_deep", "_law_boxes", "_law_lists"] (sp_value 4)) : Own P w K mg base "_law_program" 13 ["_law_state_here", "_law_most"] (sp_program) := by
  refine own_of D (fun _ _ _ _ _ _ us hl => match us, hl with | [_, _], _ => rfl) (fnW_of (N := ["_law_state_here", "_law_most", "_law_names_here", "_law_boxes", "_law_lists", "_law_titles", "_law_doors", "_law_amounts", "_law_title", "_law_left", "_law_functions", "_law_amount", "_law_params", "_law_owns", "_law_inner", "_law_rows_here", "_law_pairs", "_law_box", "_law_things", "_law_k", "_law_name"]) sc__law_program (fun vs H Q E h => ?_) (fun f cdv A outer s H vs Q E hr h => ?_))
  · obtain ⟨st, mo, rfl, _⟩ := h; rfl
  · have nd := sc__law_program.nd
    have hu := L2H.roomH_of hr
    have TK : L2N.Takes (cxOf (L2N.CX P w) P w K mg base ["_law_state_here", "_law_most", "_law_names_here", "_law_boxes", "_law_lists", "_law_titles", "_law_doors", "_law_amounts", "_law_title", "_law_left", "_law_functions", "_law_amount", "_law_params", "_law_owns", "_law_inner", "_law_rows_here", "_law_pairs", "_law_box", "_law_things", "_law_k", "_law_name"] "_law_program" (defScope s__law_program) f cdv A outer s H E) (fun cls d _ H => E cls d H) := L2N.takes_of rfl rfl rfl rfl
    refine ⟨_, (pss_cons (ps_set (i := 2) nd rfl (by first | exact Or.inl rfl | exact Or.inr rfl) (pe_own O__law_names (by decide) hr rfl (fun σ => L2N.passAt TK σ) (pa_cons (pv 0) (pa_cons pe_int pa_nil))))
      (pss_cons (ps_set (i := 3) nd rfl (by first | exact Or.inl rfl | exact Or.inr rfl) (pe_slice (sl_u (K := K)) (pv 2) po_none (po_some (pe_ix (ix_u (K := K) hu) (pe_lst (pa_cons pe_int (pa_cons pe_int (pa_cons pe_int (pa_cons pe_int pa_nil))))) (pe_own O__law_next (by decide) hr rfl (fun σ => L2N.passAt TK σ) (pa_cons (pv 0) (pa_cons pe_int pa_nil))) (fun _ _ => rfl)))))
      (pss_cons (ps_set (i := 4) nd rfl (by first | exact Or.inl rfl | exact Or.inr rfl) (pe_slice (sl_u (K := K)) (pe_slice (sl_u (K := K)) (pv 2) (po_some pe_int) po_none) po_none (po_some (pe_ix (ix_u (K := K) hu) (pe_lst (pa_cons pe_int (pa_cons pe_int (pa_cons pe_int (pa_cons pe_int pa_nil))))) (pe_own O__law_next (by decide) hr rfl (fun σ => L2N.passAt TK σ) (pa_cons (pv 0) (pa_cons pe_int pa_nil))) (fun _ _ => rfl)))))
      (pss_cons (ps_set (i := 5) nd rfl (by first | exact Or.inl rfl | exact Or.inr rfl) (pe_slice (sl_u (K := K)) (pe_own O__law_names (by decide) hr rfl (fun σ => L2N.passAt TK σ) (pa_cons (pv 0) (pa_cons pe_int pa_nil))) po_none (po_some (pe_own O__law_next (by decide) hr rfl (fun σ => L2N.passAt TK σ) (pa_cons (pv 0) (pa_cons pe_int pa_nil))))))
      (pss_cons (ps_set (i := 6) nd rfl (by first | exact Or.inl rfl | exact Or.inr rfl) (pe_slice (sl_u (K := K)) (pe_lst (pa_cons (pe_ix (ix_u (K := K) hu) (pv 2) pe_int (fun _ _ => rfl)) (pa_cons (pe_ix (ix_u (K := K) hu) (pv 2) pe_int (fun _ _ => rfl)) (pa_cons pe_str pa_nil)))) po_none (po_some (pe_own O__law_next (by decide) hr rfl (fun σ => L2N.passAt TK σ) (pa_cons (pv 0) (pa_cons pe_int pa_nil))))))
      (pss_cons (ps_setLc (i := 7) (own := [("_law_title", 8)]) rfl nd rfl rfl (sw_true rfl rfl rfl (by decide +kernel)) (pi_u (K := K) (pv 5)) (blkOk_by (N := ["_law_state_here", "_law_most", "_law_names_here", "_law_boxes", "_law_lists", "_law_titles", "_law_doors", "_law_amounts", "_law_title", "_law_left", "_law_functions", "_law_amount", "_law_params", "_law_owns", "_law_inner", "_law_rows_here", "_law_pairs", "_law_box", "_law_things", "_law_k", "_law_name"]) (sc := defScope s__law_program) (by decide +kernel)) (fun _ _ _ _ _ => (pg_name (i := 8) nd rfl (by first | exact Or.inl rfl | exact Or.inr rfl))) (fun _ _ _ _ _ => pts_nil) (fun _ _ _ _ _ => (pe_tup (pa_cons (pv 8) (pa_cons (pe_own O__law_next (by decide) hr rfl passN (pa_cons (pv 0) (pa_cons pe_int pa_nil))) pa_nil)))))
      (pss_cons (ps_set (i := 9) nd rfl (by first | exact Or.inl rfl | exact Or.inr rfl) (pe_lst (pa_cons pe_int pa_nil)))
      (pss_cons (ps_set (i := 10) nd rfl (by first | exact Or.inl rfl | exact Or.inr rfl) (pe_lst pa_nil))
      (pss_cons (ps_for (passes_of rfl) rfl (pi_u (K := K) (pv 7)) (pg_tupU (K := K) (n := 2) rfl (pgs_cons (pg_name (i := 8) nd rfl (by first | exact Or.inl rfl | exact Or.inr rfl)) (pgs_cons (pg_name (i := 11) nd rfl (by first | exact Or.inl rfl | exact Or.inr rfl)) pgs_nil)))
      (pss_cons (ps_set (i := 12) nd rfl (by first | exact Or.inl rfl | exact Or.inr rfl) (pe_slice (sl_u (K := K)) (pe_slice (sl_u (K := K)) (pv 2) (po_some pe_int) po_none) po_none (po_some (pv 11))))
      (pss_cons (ps_set (i := 13) nd rfl (by first | exact Or.inl rfl | exact Or.inr rfl) (pe_slice (sl_u (K := K)) (pe_slice (sl_u (K := K)) (pv 2) (po_some pe_int) po_none) po_none (po_some (pe_own O__law_next (by decide) hr rfl (fun σ => L2N.passAt TK σ) (pa_cons (pv 0) (pa_cons pe_int pa_nil))))))
      (pss_cons (ps_set (i := 14) nd rfl (by first | exact Or.inl rfl | exact Or.inr rfl) (pe_tup (pa_cons (pe_op (op_uadd (K := K)) (pe_op (op_uadd (K := K)) (pv 12) (pv 13)) (pv 3)) (pa_cons (pv 4) (pa_cons (pv 7) (pa_cons (pv 6) (pa_cons pe_bl pa_nil)))))))
      (pss_cons (ps_set (i := 15) nd rfl (by first | exact Or.inl rfl | exact Or.inr rfl) (pe_own O__law_rows (by decide) hr rfl (fun σ => L2N.passAt TK σ) (pa_cons (pv 0) (pa_cons (pv 14) (pa_cons pe_int (pa_cons pe_int (pa_cons (pv 9) pa_nil)))))))
      (pss_cons (ps_if (PW.pt (pw_and (pt_cmpR op_gt (pe_own O__law_next (by decide) hr rfl (fun σ => L2N.passAt TK σ) (pa_cons (pv 0) (pa_cons pe_int pa_nil))) pe_int (nomark _)) (pw_and1 (pt_cmpR op_gt (pe_ix (ix_u (K := K) hu) (pv 9) pe_int (fun _ _ => rfl)) pe_int (nomark _)))))
      (pss_cons (ps_asg (pe_op op_sub (pe_ix (ix_u (K := K) hu) (pv 9) pe_int (fun _ _ => rfl)) pe_int) (pg_sub (pv 9) pe_int (set_u hu)))
      (pss_one (ps_set (i := 15) nd rfl (by first | exact Or.inl rfl | exact Or.inr rfl) (pe_op (op_uadd (K := K)) (pv 15) (pe_tup (pa_cons (pe_tup (pa_cons pe_str (pa_cons (pe_own O__law_value (by decide) hr rfl (fun σ => L2N.passAt TK σ) (pa_cons (pv 0) (pa_cons pe_int (pa_cons (pe_ix (ix_u (K := K) hu) (pv 14) pe_int (fun _ _ => rfl)) (pa_cons (pv 4) pa_nil))))) pa_nil))) pa_nil)))))) pss_nil)
      (pss_cons (ps_asg (pe_op op_sub (pe_ix (ix_u (K := K) hu) (pv 9) pe_int (fun _ _ => rfl)) pe_int) (pg_sub (pv 9) pe_int (set_u hu)))
      (pss_one (ps_expr (pe_bm PySem.F.plainAttrs_list PySem.F.slot_list_append PySem.F.type_list_append mt_append (pv 10) (pa_cons (pe_tup (pa_cons (pv 8) (pa_cons (pe_callTy (call_utuple (K := K)) (by rfl) T.n_tuple (by decide +kernel) (pa_cons (pv 12) pa_nil)) (pa_cons (pe_callTy (call_utuple (K := K)) (by rfl) T.n_tuple (by decide +kernel) (pa_cons (pv 13) pa_nil)) (pa_cons (pv 15) pa_nil))))) pa_nil)))))))))))
      (pss_cons (ps_set (i := 15) nd rfl (by first | exact Or.inl rfl | exact Or.inr rfl) (pe_own O__law_rows (by decide) hr rfl (fun σ => L2N.passAt TK σ) (pa_cons (pv 0) (pa_cons (pe_tup (pa_cons (pv 3) (pa_cons (pv 4) (pa_cons (pv 7) (pa_cons (pv 6) (pa_cons pe_bl pa_nil)))))) (pa_cons pe_int (pa_cons (pv 1) (pa_cons (pv 9) pa_nil)))))))
      (pss_cons (ps_set (i := 16) nd rfl (by first | exact Or.inl rfl | exact Or.inr rfl) (pe_callTy (call_utuple (K := K)) (by rfl) T.n_tuple (by decide +kernel) (pa_cons (pe_lc (own := [("_law_box", 17)]) rfl nd (pi_u (K := K) (pv 3)) (blkOk_by (N := ["_law_state_here", "_law_most", "_law_names_here", "_law_boxes", "_law_lists", "_law_titles", "_law_doors", "_law_amounts", "_law_title", "_law_left", "_law_functions", "_law_amount", "_law_params", "_law_owns", "_law_inner", "_law_rows_here", "_law_pairs", "_law_box", "_law_things", "_law_k", "_law_name"]) (sc := defScope s__law_program) (by decide +kernel)) (fun _ _ _ _ _ => (pg_name (i := 17) nd rfl (by first | exact Or.inl rfl | exact Or.inr rfl))) (fun _ _ _ _ _ => pts_nil) (fun _ _ _ _ _ => (pe_tup (pa_cons (pv 17) (pa_cons (pe_own O__law_next (by decide) hr rfl passN (pa_cons (pv 0) (pa_cons pe_int pa_nil))) pa_nil))))) pa_nil)))
      (pss_cons (ps_set (i := 18) nd rfl (by first | exact Or.inl rfl | exact Or.inr rfl) (pe_callTy (call_utuple (K := K)) (by rfl) T.n_tuple (by decide +kernel) (pa_cons (pe_lc (own := [("_law_name", 20)]) rfl nd (pi_u (K := K) (pv 4)) (blkOk_by (N := ["_law_state_here", "_law_most", "_law_names_here", "_law_boxes", "_law_lists", "_law_titles", "_law_doors", "_law_amounts", "_law_title", "_law_left", "_law_functions", "_law_amount", "_law_params", "_law_owns", "_law_inner", "_law_rows_here", "_law_pairs", "_law_box", "_law_things", "_law_k", "_law_name"]) (sc := defScope s__law_program) (by decide +kernel)) (fun _ _ _ _ _ => (pg_name (i := 20) nd rfl (by first | exact Or.inl rfl | exact Or.inr rfl))) (fun _ _ _ _ _ => pts_nil) (fun _ _ _ _ _ => (pe_tup (pa_cons (pv 20) (pa_cons (pe_callTy (call_utuple (K := K)) (by rfl) T.n_tuple (by decide +kernel) (pa_cons (pe_lc (own := [("_law_k", 19)]) rfl nd (pi_range1 rfl T.n_range (pa_cons (pe_own O__law_next (by decide) hr rfl passN (pa_cons (pv 0) (pa_cons pe_int pa_nil))) pa_nil)) (blkOk_in (N := ["_law_state_here", "_law_most", "_law_names_here", "_law_boxes", "_law_lists", "_law_titles", "_law_doors", "_law_amounts", "_law_title", "_law_left", "_law_functions", "_law_amount", "_law_params", "_law_owns", "_law_inner", "_law_rows_here", "_law_pairs", "_law_box", "_law_things", "_law_k", "_law_name"]) (sc := ({ kind := .function, names := [(".0", .local), ("_law_name", .local), ("tuple", .globalImplicit), ("range", .globalImplicit), ("_law_next", .globalImplicit), ("_law_state_here", .cell)], isGenerator := false, isCoroutine := false } : Scope)) rfl rfl (by decide +kernel)) (fun _ _ _ _ _ => (pg_name (i := 19) nd rfl (by first | exact Or.inl rfl | exact Or.inr rfl))) (fun _ _ _ _ _ => pts_nil) (fun _ _ _ _ _ => (pe_own O__law_next (by decide) hr rfl passN (pa_cons (pv 0) (pa_cons pe_int pa_nil))))) pa_nil)) pa_nil))))) pa_nil)))
      (pss_one (ps_ret (pe_tup (pa_cons (pv 16) (pa_cons (pv 18) (pa_cons (pe_callTy (call_utuple (K := K)) (by rfl) T.n_tuple (by decide +kernel) (pa_cons (pv 10) pa_nil)) (pa_cons (pv 15) pa_nil))))))))))))))))))), ?_⟩
    clear nd
    obtain ⟨st, mo, rfl, hst, mo0, mo6, q⟩ := h
    walk_at "vs"
    refine ⟨st, 9, rfl, hst, by omega, by omega, fun na zs H1 nna c1 hst1 hna hzl hznm hznd => ?_⟩
    have nst := hst1.ne_strs hna
    have kN : ∀ {H'}, Chg [st] H1 H' → H' na = some (.lst (zs.map V.str)) := fun c => c.keep hna (by simpa using nst)
    walk_at "vs"
    refine v_newL (line9 (by show 4 ≤ 10000; decide)) fun g1 H2 ng1 c2 hg1 => ?_
    walk_at "vs"
    refine ⟨st, 4, rfl, hst1.on0 c2, by omega, fun i1 H3 i10 i11 c3 hst3 => ?_⟩
    walk_at "vs"
    refine v_ix_ints (ns := [1, 2, 2, 3]) (c3.keep hg1 (by simpa using hst1.ne_none ng1)) i10 (by show i1 < 4; omega) fun m1 hm1 => ?_
    have cc3 := c2.of0.trans c3
    walk_at "vs"
    refine v_sl_strs (SqL.of (kN cc3)) fun ba H4 nba c4 hba => ?_
    generalize hbs : cutL zs none (some m1) = bs at hba
    have bsm : ∀ z ∈ bs, isNm z = true := fun z hz => by subst hbs; exact hznm z (cutL_mem hz)
    have bsl : (bs.length : Int) ≤ 3 := by
      subst hbs
      simp only [List.mem_cons, List.not_mem_nil, or_false] at hm1
      have := cutL_hi zs (k := m1) (by omega)
      omega
    have cc4 := cc3.trans c4.of0
    have hst4 := hst3.on0 c4
    have bast := hst3.ne_none nba
    have kB : ∀ {H'}, Chg [st] H4 H' → H' ba = some (.lst (bs.map V.str)) := fun c => c.keep hba (by simpa using bast)
    walk_at "vs"
    refine v_sl_strs (SqL.of (kN cc4)) fun l0 H5 nl0 c5 hl0 => ?_
    walk_at "vs"
    refine v_newL (line9 (by show 4 ≤ 10000; decide)) fun g2 H6 ng2 c6 hg2 => ?_
    have hst6 := (hst4.on0 c5).on0 c6
    walk_at "vs"
    refine ⟨st, 4, rfl, hst6, by omega, fun i2 H7 i20 i21 c7 hst7 => ?_⟩
    walk_at "vs"
    refine v_ix_ints (ns := [0, 1, 1, 2]) (c7.keep hg2 (by simpa using (hst4.on0 c5).ne_none ng2)) i20 (by show i2 < 4; omega) fun m2 hm2 => ?_
    walk_at "vs"
    refine v_sl_strs (SqL.of (c7.keep (c6.at hl0) (by simpa using hst4.ne_none nl0))) fun la H8 nla c8 hla => ?_
    generalize hls : cutL (cutL zs (some 3) none) none (some m2) = ls at hla
    have lsm : ∀ z ∈ ls, isNm z = true := fun z hz => by subst hls; exact hznm z (cutL_mem (cutL_mem hz))
    have lsl : (ls.length : Int) ≤ 2 := by
      subst hls
      simp only [List.mem_cons, List.not_mem_nil, or_false] at hm2
      have := cutL_hi (cutL zs (some 3) none) (k := m2) (by omega)
      omega
    have hndp : (bs ++ ls).Nodup := by
      subst hbs; subst hls
      simp only [List.mem_cons, List.not_mem_nil, or_false] at hm1 hm2
      exact nd_parts hznd (by omega) (by omega) (by omega)
    have c48 : Chg [st] H4 H8 := (c5.trans c6).of0.trans (c7.trans c8.of0)
    have hst8 := hst7.on0 c8
    have last := hst7.ne_none nla
    have kL : ∀ {H'}, Chg [st] H8 H' → H' la = some (.lst (ls.map V.str)) := fun c => c.keep hla (by simpa using last)
    walk_at "vs"
    refine ⟨st, 4, rfl, hst8, by omega, by omega, fun t0 ts0 H9 nt0 c9 hst9 ht0 ht0l ht0m _ => ?_⟩
    walk_at "vs"
    refine ⟨st, 3, rfl, hst9, by omega, fun m3 H10 m30 m31 c10 hst10 => ?_⟩
    walk_at "vs"
    refine v_sl_strs (SqL.of (c10.keep ht0 (by simpa using hst9.ne_strs ht0))) fun ta H11 nta c11 hta => ?_
    generalize hts : cutL ts0 none (some m3) = ts at hta
    have tsm : ∀ z ∈ ts, isNm z = true := fun z hz => by subst hts; exact ht0m z (cutL_mem hz)
    have tsl : (ts.length : Int) ≤ 2 := by subst hts; have := cutL_hi ts0 m30; omega
    have c811 : Chg [st] H8 H11 := (c9.trans c10).trans c11.of0
    have hst11 := hst10.on0 c11
    have tast := hst10.ne_none nta
    walk_at "vs"
    refine v_ix_strs (SqL.of (kN (cc4.trans (c48.trans c811)))) (by omega) (by omega) fun z0 hz0 => ?_
    walk_at "vs"
    refine v_ix_strs (SqL.of (kN (cc4.trans (c48.trans c811)))) (by omega) (by omega) fun z5 hz5 => ?_
    walk_at "vs"
    refine v_newL (line9 (by show 3 ≤ 10000; decide)) fun d0 H12 nd0 c12 hd0 => ?_
    walk_at "vs"
    refine ⟨st, 4, rfl, hst11.on0 c12, by omega, fun m4 H13 m40 m41 c13 hst13 => ?_⟩
    walk_at "vs"
    refine v_sl_strs (zs := [z0, z5, "door"]) (SqL.of (c13.keep hd0 (by simpa using hst11.ne_none nd0))) fun da H14 nda c14 hda => ?_
    generalize hds : cutL [z0, z5, Str.ofString "door"] none (some m4) = ds at hda
    have dsm : ∀ z ∈ ds, isNm z = true := fun z hz => by
      subst hds
      have := cutL_mem hz
      simp only [List.mem_cons, List.not_mem_nil, or_false] at this
      rcases this with rfl | rfl | rfl
      · exact hznm _ hz0
      · exact hznm _ hz5
      · decide +kernel
    have dsl : (ds.length : Int) ≤ 3 := by subst hds; have := cutL_hi [z0, z5, Str.ofString "door"] m40; omega
    have c1114 : Chg [st] H11 H14 := c12.of0.trans (c13.trans c14.of0)
    have hst14 := hst13.on0 c14
    have dast := hst13.ne_none nda
    have kD : ∀ {H'}, Chg [st] H14 H' → H' da = some (.lst (ds.map V.str)) := fun c => c.keep hda (by simpa using dast)
    walk_at "vs"
    have c1114t : H14 ta = some (.lst (ts.map V.str)) := c1114.keep hta (by simpa using tast)
    refine v_it_l (SqL.of c1114t) ?_
    refine v_lc_list (xs := ts.map V.str) [st] (fun i acc H' => StAt H' st ∧ ∃ ps : List (Str × Int), Cls H' acc (ps.map fK) ∧ ps.length = i ∧ ∀ p ∈ ps, isNm p.1 = true ∧ 0 ≤ p.2 ∧ p.2 ≤ 3) (by
      intro b hb; rw [List.mem_singleton] at hb; subst hb
      obtain ⟨z, e, _⟩ := hst14; rw [e]; simp) (fun H' c => SqL.of (c.keep c1114t (by simpa using tast))) (fun H' c => ⟨hst14.on0 c, [], .nil, rfl, by simp⟩) ?_ ?_
    · rintro D i x acc H15 hx nD dS c15 hD ⟨hst15, ps, hC, hpl, hp⟩
      rw [List.getElem?_map] at hx
      obtain ⟨ti, hti, rfl⟩ : ∃ z, ts[i]? = some z ∧ x = V.str z := by
        cases e : ts[i]? with
        | none => rw [e] at hx; cases hx
        | some z => rw [e] at hx; cases hx; exact ⟨z, rfl, rfl⟩
      have hil : i < ts.length := (List.getElem?_eq_some_iff.mp hti).1
      walk_at "vs"
      refine ⟨rfl, ?_⟩
      walk_at "vs"
      refine ⟨st, 3, rfl, hst15, by omega, fun am H16 am0 am1 c16 hst16 => ?_⟩
      walk_at "vs"
      refine v_newT (line9 (by show 2 ≤ 10000; decide)) fun t H17 nt c17 ht => ?_
      refine v_lcA c15 hD nD dS (c16.trans c17.of0) (line9' (by have := hC.length; rw [List.length_map] at this; omega)) fun H18 c18 => ?_
      have Dst : st ≠ D := by rintro rfl; simp at dS
      refine ⟨(hst16.on0 c17).on c18 (by simpa using Dst), ps ++ [(ti, am)], ?_, by simp [hpl], fun p hp' => ?_⟩
      · rw [List.map_append]
        exact (((hC.on c16).on c17).snoc ht).on c18
      · rcases List.mem_append.mp hp' with h | h
        · exact hp p h
        · rw [List.mem_singleton] at h; subst h
          exact ⟨tsm ti (List.mem_of_getElem? hti), am0, by show am ≤ 3; omega⟩
    rintro aa ft H15 c15 nft hft ⟨hst15, ps, hC, hpl, hpm⟩
    rw [List.length_map] at hpl
    have psl : (ps.length : Int) ≤ 2 := by omega
    have aast : aa ≠ st := hst14.ne_none nft
    have kA : ∀ {H'}, Chg [st] H15 H' → H' aa = some (.lst ft) := fun c => c.keep hft (by simpa using aast)
    walk_at "vs"
    refine v_newL (line9 (by show 1 ≤ 10000; decide)) fun lf H16 nlf c16 hlf => ?_
    walk_at "vs"
    refine v_newL (line9 (by show 0 ≤ 10000; decide)) fun fo H17 nfo c17 hfo => ?_
    have c1517 := c16.trans c17
    have hst17 := hst15.on0 c1517
    have lfst : lf ≠ st := hst15.ne_none nlf
    have fost : fo ≠ st := (hst15.on0 c16).ne_none nfo
    have folf : fo ≠ lf := by rintro rfl; rw [hlf] at nfo; cases nfo
    have hz17 : LfAt H17 lf 56 := c17.at hlf
    have na15 : H15 na = some (.lst (zs.map V.str)) := kN (cc4.trans (c48.trans (c811.trans (c1114.trans c15))))
    have ba15 : H15 ba = some (.lst (bs.map V.str)) := kB (c48.trans (c811.trans (c1114.trans c15)))
    have la15 : H15 la = some (.lst (ls.map V.str)) := kL (c811.trans (c1114.trans c15))
    have da15 : H15 da = some (.lst (ds.map V.str)) := kD c15
    have kO : ∀ {H'} {b : Addr} {o : HO}, Chg [st, lf, fo] H17 H' → H15 b = some o → b ≠ st → H' b = some o := fun {H' b o} c h n => c.keep (c1517.at h) (by
      simp only [List.mem_cons, List.not_mem_nil, or_false, not_or]
      refine ⟨n, ?_, ?_⟩
      · rintro rfl; rw [nlf] at h; cases h
      · rintro rfl; rw [c16.dom nfo] at h; cases h)
    have kC : ∀ {H'}, Chg [st, lf, fo] H17 H' → Cls H' ft (ps.map fK) := fun c => (hC.on c1517).on c
    have hftl : ft.length = ps.length := by have := hC.length; rw [List.length_map] at this; exact this
    walk_at "vs"
    refine v_it_l (SqL.of (c1517.at hft)) ?_
    refine v_for_list (xs := ft) (fun i σ H' => ∃ (v8 v11 v12 v13 v14 v15 v16 v17 v18 v19 v20 : Option V) (xs : List V) (fs : List (Str × List Str × List Str × List Rw)) (z : Int), σ = [some (.ref st), some (.int mo), some (.ref na), some (.ref ba), some (.ref la), some (.ref ta), some (.ref da), some (.ref aa), v8, some (.ref lf), some (.ref fo), v11, v12, v13, v14, v15, v16, v17, v18, v19, v20] ∧ Chg [st, lf, fo] H17 H' ∧ StAt H' st ∧
        LfAt H' lf z ∧ -4 - (i : Int) ≤ z ∧ z ≤ 56 ∧ H' fo = some (.lst xs) ∧ RpA H' xs (fs.map fnD) ∧ fs.length = i ∧ (fcnt fs : Int) ≤ 56 - z ∧
        (∀ f ∈ fs, isNm f.1 = true ∧ f.2.1.length ≤ 3 ∧ f.2.2.1.length ≤ 3 ∧ (∀ z ∈ f.2.1, isNm z = true) ∧ (∀ z ∈ f.2.2.1, isNm z = true) ∧ (∃ N : Nms, N.nm ∧ Rw.oks N f.2.2.2) ∧ Rw.dpts f.2.2.2 ≤ 5))
      ⟨_, none, none, none, none, none, none, none, none, none, none, [], [], 56, rfl, .refl, hst17, hz17, by omega, by omega, hfo, .nil, rfl, by simp [fcnt], by simp⟩ (fun i σ H' _ ⟨_, _, _, _, _, _, _, _, _, _, _, _, _, _, _, c, _⟩ => SqL.of (kO c hft aast)) ?_ ?_
    · rintro i x σ H18 hx ⟨v8, v11, v12, v13, v14, v15, v16, v17, v18, v19, v20, xs, fs, z, rfl, c18, hst18, hz18, z0', z1', hfo18, hR, hfl, hfc, hfm⟩
      obtain ⟨t, k, rfl, hk, ek⟩ := (kC c18).get hx
      rw [List.getElem?_map] at hk
      obtain ⟨⟨ti, am⟩, hp, rfl⟩ : ∃ p, ps[i]? = some p ∧ k = fK p := by
        cases e : ps[i]? with
        | none => rw [e] at hk; cases hk
        | some p => rw [e] at hk; cases hk; exact ⟨p, rfl, rfl⟩
      obtain ⟨tim, am0, am1⟩ := hpm _ (List.mem_of_getElem? hp)
      dsimp only at tim am0 am1
      have hil : i < ps.length := (List.getElem?_eq_some_iff.mp hp).1
      replace ek : H18 t = some (.tup [.str ti, .int am]) := ek
      refine v_gtup (SqT.of ek) rfl ?_
      walk_at "vs"
      refine v_sl_strs (SqL.of (kO c18 na15 nst)) fun p0 H19 np0 c19 hp0 => ?_
      walk_at "vs"
      refine v_sl_strs (SqL.of hp0) fun pa H20 npa c20 hpa => ?_
      generalize hqs : cutL (cutL zs (some 5) none) none (some am) = qs at hpa
      have qsm : ∀ z ∈ qs, isNm z = true := fun z hz => by subst hqs; exact hznm z (cutL_mem (cutL_mem hz))
      have qsl : (qs.length : Int) ≤ 3 := by subst hqs; have := cutL_hi (cutL zs (some 5) none) am0; omega
      have c1820 := c19.trans c20
      have hst20 := hst18.on0 c1820
      have c1720 : Chg [st, lf, fo] H17 H20 := c18.trans c1820.of0
      have past : pa ≠ st := (hst18.on0 c19).ne_none npa
      walk_at "vs"
      refine v_sl_strs (SqL.of (kO c1720 na15 nst)) fun o0 H21 no0 c21 ho0 => ?_
      walk_at "vs"
      refine ⟨st, 3, rfl, hst20.on0 c21, by omega, fun mm H22 mm0 mm1 c22 hst22 => ?_⟩
      walk_at "vs"
      refine v_sl_strs (SqL.of (c22.keep ho0 (by simpa using hst20.ne_none no0))) fun oa H23 noa c23 hoa => ?_
      generalize hos : cutL (cutL zs (some 7) none) none (some mm) = os at hoa
      have osm : ∀ z ∈ os, isNm z = true := fun z hz => by subst hos; exact hznm z (cutL_mem (cutL_mem hz))
      have osl : (os.length : Int) ≤ 3 := by subst hos; have := cutL_hi (cutL zs (some 7) none) mm0; omega
      have c2023 : Chg [st] H20 H23 := c21.of0.trans (c22.trans c23.of0)
      have hst23 := hst22.on0 c23
      have oast : oa ≠ st := hst22.ne_none noa
      have hpa23 := c2023.keep hpa (by simpa using past)
      have c1723 : Chg [st, lf, fo] H17 H23 := c1720.trans (c2023.mono (by simp))
      walk_at "vs"
      refine v_add_strs hpa23 hoa (by omega) fun j1 H24 nj1 c24 hj1 => ?_
      walk_at "vs"
      refine v_add_strs hj1 (kO (c1723.trans c24.of0) ba15 bast) (by rw [List.length_append]; omega) fun j2 H25 nj2 c25 hj2 => ?_
      walk_at "vs"
      refine v_newT (line9 (by show 5 ≤ 10000; decide)) fun nm H26 nnm c26 hnm => ?_
      have c2326 := (c24.trans c25).trans c26
      have c1726 : Chg [st, lf, fo] H17 H26 := c1723.trans c2326.of0
      have hst26 := hst23.on0 c2326
      have c1826 : Chg [st] H18 H26 := c1820.of0.trans (c2023.trans c2326.of0)
      have hz26 : LfAt H26 lf z := c1826.keep hz18 (by simpa using lfst)
      have hfo26 := c1826.keep hfo18 (by simpa using fost)
      let m : Nm := ⟨qs ++ os ++ bs, ls, ps, ds, true⟩
      have hm : m.fine := ⟨by show (qs ++ os ++ bs).length ≤ 26; rw [List.length_append, List.length_append]; omega, by show ls.length ≤ 26; omega, by show ps.length ≤ 26; omega, by show ds.length ≤ 26; omega,
        fun z hz => by
          rcases List.mem_append.mp hz with h | h
          · rcases List.mem_append.mp h with h | h
            · exact qsm z h
            · exact osm z h
          · exact bsm z h, lsm, hpm, dsm⟩
      have hNI : NmIn H26 m j2 la aa da := ⟨c26.at hj2, kO c1726 la15 last, ⟨ft, kO c1726 hft aast, kC c1726⟩, kO c1726 da15 dast⟩
      have hN : NmAt H26 nm m := ⟨j2, la, aa, da, hnm, hNI⟩
      walk_at "vs"
      refine ⟨st, nm, 1, 4, lf, m, z, rfl, hst26, hN, hm, hz26, lfst, by omega, by omega, by omega, by omega, by omega, z1', fun v rs z2 H27 c27 hst27 hz27 z20 z21 zc rp ok dp => ?_⟩
      have c1727 : Chg [st, lf, fo] H17 H27 := c1726.trans (c27.mono (by simp))
      have nej2 : j2 ≠ st := (hst23.on0 c24).ne_none nj2
      have hfo27 : H27 fo = some (.lst xs) := c27.keep hfo26 (by simp only [List.mem_cons, List.not_mem_nil, or_false, not_or]; exact ⟨fost, folf⟩)
      have one26 : ∀ s ∈ [st, lf], OneI H26 s := by
        intro s hs
        simp only [List.mem_cons, List.not_mem_nil, or_false] at hs
        rcases hs with rfl | rfl
        · exact hst26.one
        · exact ⟨_, hz26⟩
      have hNI27 := hNI.on c27 one26
      have hnm27 := c27.tup hnm
      walk_at "vp"
      refine v_join (fun σ H' => ∃ (v' : V) (rs' : List Rw) (z3 : Int), σ = [some (.ref st), some (.int mo), some (.ref na), some (.ref ba), some (.ref la), some (.ref ta), some (.ref da), some (.ref aa), some (.str ti), some (.ref lf), some (.ref fo), some (.int am), some (.ref pa), some (.ref oa), some (.ref nm), some v', v16, v17, v18, v19, v20] ∧ Chg [st, lf] H27 H' ∧ StAt H' st ∧ LfAt H' lf z3 ∧
        min z (-4) ≤ z3 ∧ z3 ≤ z ∧ (Rw.cnts rs' : Int) ≤ z - z3 ∧ Rp H' v' (.tup (Rw.ds rs')) ∧ Rw.oks m.nms rs' ∧ (Rw.dpts rs' : Int) ≤ 5) ?_ ?_
      · rintro σ H28 ⟨v', rs', z3, rfl, c28, hst28, hz28, z30, z31, zc3, rp3, ok3, dp3⟩
        have c1728 : Chg [st, lf, fo] H17 H28 := c1727.trans (c28.mono (by simp))
        have c2628 : Chg [st, lf] H26 H28 := c27.trans c28
        have noS : ∀ {b : Addr} {o : HO}, H26 b = some o → b ≠ st → b ≠ lf → H28 b = some o := fun h h1 h2 => c2628.keep h (by simp only [List.mem_cons, List.not_mem_nil, or_false, not_or]; exact ⟨h1, h2⟩)
        have neL : ∀ {b : Addr} {o : HO}, H18 b = none → H26 b = some o → b ≠ lf := by rintro b o h1 h2 rfl; unfold LfAt at hz18; rw [h1] at hz18; cases hz18
        have hpa28 := noS (c2326.at hpa23) past (neL (c19.dom npa) (c2326.at hpa23))
        have hoa28 := noS (c2326.at hoa) oast (neL ((c19.trans c20).dom ((c21.of0.trans c22).dom noa)) (c2326.at hoa))
        have hfo28 := noS hfo26 fost folf
        walk_at "vs"
        refine v_ix_l (SqL.of hz28) rfl ?_
        walk_at "vs"
        refine v_set_l hz28 rfl fun H29 c29 hz29' => ?_
        have hz29 : LfAt H29 lf (z3 - 1) := hz29'
        have hst29 : StAt H29 st := hst28.on c29 (by simpa using fun e => lfst e.symm)
        have nlfpa : pa ≠ lf := neL (c19.dom npa) (c2326.at hpa23)
        have nlfoa : oa ≠ lf := neL ((c19.trans c20).dom ((c21.of0.trans c22).dom noa)) (c2326.at hoa)
        have hfo29 := c29.keep hfo28 (by simpa using folf)
        walk_at "vs"
        refine v_bml (SqL.of hfo29) ?_
        walk_at "vs"
        refine v_tuple_l (SqL.of (c29.keep hpa28 (by simpa using nlfpa))) fun u1 H30 nu1 c30 hu1 => ?_
        walk_at "vs"
        refine v_tuple_l (SqL.of (c30.at (c29.keep hoa28 (by simpa using nlfoa)))) fun u2 H31 nu2 c31 hu2 => ?_
        walk_at "vs"
        refine v_newT (line9 (by show 4 ≤ 10000; decide)) fun u3 H32 nu3 c32 hu3 => ?_
        have c2932 := (c30.trans c31).trans c32
        have c1732 : Chg [st, lf, fo] H17 H32 := (c1728.trans (c29.mono (by simp))).trans c2932.of0
        have hxl : xs.length ≤ 100 := by have := hR.length; rw [List.length_map] at this; omega
        walk_at "vs"
        refine v_append (c2932.at hfo29) (line9' (by omega)) fun H33 c33 hfo33 => ?_
        walk_at "vs"
        have hst33 : StAt H33 st := (hst29.on0 c2932).on c33 (by simpa using fun e => fost e.symm)
        have hz33 : LfAt H33 lf (z3 - 1) := c33.keep (c2932.at hz29) (by simpa using fun e => folf e.symm)
        have c1833 : Chg [st, lf, fo] H18 H33 := (((c1826.mono (by simp)).trans (c2628.mono (by simp))).trans (c29.mono (by simp))).trans (c2932.of0.trans (c33.mono (by simp)))
        have rr : Rp H32 (.ref u3) (fnD (ti, qs, os, rs')) := .tup hu3 (.cons (.str (isNm_ok tim)) (.cons (.tup ((c31.trans c32).tup hu1) (rpA_strs fun z h => isNm_ok (qsm z h))) (.cons (.tup (c32.tup hu2) (rpA_strs fun z h => isNm_ok (osm z h))) (.one ((rp3.on c29).on c2932)))))
        refine ⟨_, _, _, _, _, _, _, _, _, _, _, xs ++ [.ref u3], fs ++ [(ti, qs, os, rs')], z3 - 1, rfl, c18.trans c1833, hst33, hz33, by omega, by omega, hfo33, ?_, by simp [hfl], ?_, ?_⟩
        · rw [List.map_append]
          exact (hR.on c1833).app (.one (rr.on c33))
        · rw [fcnt_app]
          have : fcnt [(ti, qs, os, rs')] = Rw.cnts rs' + 1 := by simp [fcnt]
          rw [this]; omega
        · intro f hf
          rcases List.mem_append.mp hf with h | h
          · exact hfm f h
          · rw [List.mem_singleton] at h; subst h
            exact ⟨tim, by show qs.length ≤ 3; omega, by show os.length ≤ 3; omega, qsm, osm, ⟨_, nm_of hm, ok3⟩, by show Rw.dpts rs' ≤ 5; omega⟩
      · intro U hU
        refine v_ifJ (fun k H' => Chg [st] H27 H' ∧ StAt H' st ∧ (k = true → 3 < z2)) ?_ ?_ ?_
        · rintro H28 ⟨c28, hst28, hz3⟩
          have hz3 := hz3 rfl
          have hz28 : LfAt H28 lf z2 := c28.keep hz27 (by simpa using lfst)
          walk_at "vs"
          refine v_ix_l (SqL.of hz28) rfl ?_
          walk_at "vs"
          refine v_set_l hz28 rfl fun H29 c29 hz29' => ?_
          have hz29 : LfAt H29 lf (z2 - 1) := hz29'
          have hst29 : StAt H29 st := hst28.on c29 (by simpa using fun e => lfst e.symm)
          have c2729 : Chg [st, lf] H27 H29 := (c28.mono (by simp)).trans (c29.mono (by simp))
          walk_at "vs"
          refine v_ix_t (SqT.of (c2729.tup hnm27)) rfl ?_
          walk_at "vs"
          have one27 : ∀ s ∈ [st, lf], OneI H27 s := by
            intro s hs
            simp only [List.mem_cons, List.not_mem_nil, or_false] at hs
            rcases hs with rfl | rfl
            · exact hst27.one
            · exact ⟨_, hz27⟩
          have hNI29 := hNI27.on c2729 one27
          refine ⟨st, 2, j2, la, m.bs, m.ls, rfl, hst29, by omega, by omega, hNI29.b, hNI29.l, hm.lb, hm.ll, hm.nb, hm.nl, fun v1 u1 H30 c30 hst30 rp1 ok1 dp1 => ?_⟩
          walk_at "vs"
          refine v_newT (line9 (by show 2 ≤ 10000; decide)) fun w1 H31 nw1 c31 hw1 => ?_
          walk_at "vs"
          refine v_newT (line9 (by show 1 ≤ 10000; decide)) fun w2 H32 nw2 c32 hw2 => ?_
          have c2732 : Chg [st, lf] H27 H32 := c2729.trans ((c30.mono (by simp)).trans (c31.trans c32).of0)
          obtain ⟨ar, xr, rfl, har, hxr⟩ := (rp.on c2732).tupI
          have hxl : xr.length ≤ 100 := by
            have h1 := hxr.length
            rw [Rw.ds_eq, List.length_map] at h1
            have := Rw.len_cnts rs
            omega
          refine v_add_tt har hw2 (line9 (by show xr.length + 1 ≤ 10000; omega)) fun w3 H33 c33 hw3 => ?_
          walk_at "vs"
          have r1 : Rp H32 (.ref w1) (Rw.ret u1).d := .tup (c32.tup hw1) (.cons (.str (wOk (by simp))) (.one ((rp1.on c31).on c32)))
          refine hU _ _ ⟨_, rs ++ [.ret u1], z2 - 1, rfl, c2732.trans c33.of0, ((hst30.on0 c31).on0 c32).on0 c33, c33.at ((c31.trans c32).at (c30.keep hz29 (by simpa using lfst))), by omega, by omega, ?_, .tup hw3 ?_, Rw.oks_app ok (m := [Rw.ret u1]) ⟨(⟨rfl, ok1, by omega⟩ : Rw.ok m.nms (Rw.ret u1)), trivial⟩, ?_⟩
          · rw [Rw.cnts_app]; simp only [Rw.cnts, Rw.cnt]; omega
          · rw [Rw.ds_app]; exact (hxr.snoc r1).on c33
          · rw [Rw.dpts_app]; simp only [Rw.dpts, Rw.dpt]; omega
        · rintro H28 ⟨c28, hst28, _⟩
          walk_at "vs"
          exact hU _ _ ⟨_, rs, z2, rfl, c28.mono (by simp), hst28, c28.keep hz27 (by simpa using lfst), by omega, by omega, zc, rp.on c28, ok, by omega⟩
        · intro Q' hQ'
          walk_at "vs"
          refine ⟨st, 3, rfl, hst27, by omega, fun mm H28 mm0 mm1 c28 hst28 => ?_⟩
          walk_at "vs"
          refine v_iteD (fun h5 => ?_) (fun h5 => ?_)
          · walk_at "vs"
            refine v_ix_l (SqL.of (c28.keep hz27 (by simpa using lfst))) rfl ?_
            walk_at "vs"
            exact hQ' _ _ ⟨c28, hst28, fun h => by have := of_decide_eq_true h; omega⟩
          · walk_at "vs"
            exact hQ' _ _ ⟨c28, hst28, fun z => by cases z⟩
    rintro σ H18 ⟨v8, v11, v12, v13, v14, v15, v16, v17, v18, v19, v20, xs, fs, z, rfl, c18, hst18, hz18, z0', z1', hfo18, hR, hfl, hfc, hfm⟩
    walk_at "vs"
    refine v_newT (line9 (by show 5 ≤ 10000; decide)) fun nm H19 nnm c19 hnm => ?_
    have c1719 : Chg [st, lf, fo] H17 H19 := c18.trans c19.of0
    let m : Nm := ⟨bs, ls, ps, ds, false⟩
    have hm : m.fine := ⟨by show bs.length ≤ 26; omega, by show ls.length ≤ 26; omega, by show ps.length ≤ 26; omega, by show ds.length ≤ 26; omega, bsm, lsm, hpm, dsm⟩
    have hNI : NmIn H19 m ba la aa da := ⟨kO c1719 ba15 bast, kO c1719 la15 last, ⟨ft, kO c1719 hft aast, kC c1719⟩, kO c1719 da15 dast⟩
    have hst19 := hst18.on0 c19
    walk_at "vs"
    refine ⟨st, nm, 1, mo, lf, m, z, rfl, hst19, ⟨ba, la, aa, da, hnm, hNI⟩, hm, c19.at hz18, lfst, by omega, by omega, by omega, mo0, mo6, z1', fun vr rs z2 H20 c20 hst20 hz20 z20 z21 zc rp ok dp => ?_⟩
    have c1720 : Chg [st, lf, fo] H17 H20 := c1719.trans (c20.mono (by simp))
    have hfo20 : H20 fo = some (.lst xs) := c20.keep (c19.at hfo18) (by simp only [List.mem_cons, List.not_mem_nil, or_false, not_or]; exact ⟨fost, folf⟩)
    have ba22 := kO c1720 ba15 bast
    walk_at "vs"
    refine v_it_l (SqL.of ba22) ?_
    refine v_lc_list (xs := bs.map V.str) [st] (fun i acc H' => StAt H' st ∧ ∃ bx : List (Str × Int), RpA H' acc (bx.map bxD) ∧ bx.map (·.1) = bs.take i ∧ bx.length = i ∧ ∀ p ∈ bx, isNm p.1 = true ∧ 0 ≤ p.2 ∧ p.2 < 1000000) (by
      intro b hb; rw [List.mem_singleton] at hb; subst hb
      obtain ⟨z, e, _⟩ := hst20; rw [e]; simp) (fun H' c => SqL.of (c.keep ba22 (by simpa using bast))) (fun H' c => ⟨hst20.on0 c, [], .nil, rfl, rfl, by simp⟩) ?_ ?_
    · rintro D i x acc H23 hx nD dS c23 hD ⟨hst23, bx, hB, hbn, hbl, hbm⟩
      rw [List.getElem?_map] at hx
      obtain ⟨bi, hbi, rfl⟩ : ∃ z, bs[i]? = some z ∧ x = V.str z := by
        cases e : bs[i]? with
        | none => rw [e] at hx; cases hx
        | some z => rw [e] at hx; cases hx; exact ⟨z, rfl, rfl⟩
      have hil : i < bs.length := (List.getElem?_eq_some_iff.mp hbi).1
      have nbi := bsm bi (List.mem_of_getElem? hbi)
      walk_at "vs"
      refine ⟨rfl, ?_⟩
      walk_at "vs"
      refine ⟨st, 6, rfl, hst23, by omega, fun am H24 am0 am1 c24 hst24 => ?_⟩
      walk_at "vs"
      refine v_newT (line9 (by show 2 ≤ 10000; decide)) fun t H25 nt c25 ht => ?_
      refine v_lcA c23 hD nD dS (c24.trans c25.of0) (line9' (by have := hB.length; rw [List.length_map] at this; omega)) fun H26 c26 => ?_
      have Dst : st ≠ D := by rintro rfl; simp at dS
      refine ⟨(hst24.on0 c25).on c26 (by simpa using Dst), bx ++ [(bi, am)], ?_, by rw [List.map_append, hbn, take_snoc hbi]; rfl, by simp [hbl], fun p hp' => ?_⟩
      · rw [List.map_append]
        exact (((hB.on c24).on c25).snoc (.tup ht (.cons (.str (isNm_ok nbi)) (.one (.int _))))).on c26
      · rcases List.mem_append.mp hp' with h | h
        · exact hbm p h
        · rw [List.mem_singleton] at h; subst h
          exact ⟨nbi, am0, by show am < 1000000; omega⟩
    rintro D acc H23 c23 nD hD ⟨hst23, bx, hB, hbn, hbl, hbm⟩
    rw [List.length_map] at hbl
    rw [List.length_map, List.take_length] at hbn
    walk_at "vs"
    refine v_tuple_l (SqL.of hD) fun pa H24 npa c24 hpa => ?_
    walk_at "vs"
    have c2024 : Chg [st] H20 H24 := c23.trans c24.of0
    have hst24 := hst23.on0 c24
    have la24 := kO (c1720.trans (c2024.mono (by simp))) la15 last
    refine v_it_l (SqL.of la24) ?_
    refine v_lc_list (xs := ls.map V.str) [st] (fun i acc H' => StAt H' st ∧ ∃ lx : List (Str × List Int), RpA H' acc (lx.map lsD) ∧ lx.map (·.1) = ls.take i ∧ lx.length = i ∧ ∀ l ∈ lx, isNm l.1 = true ∧ l.2.length ≤ 12 ∧ ∀ i ∈ l.2, 0 ≤ i ∧ i < 1000000) (by
      intro b hb; rw [List.mem_singleton] at hb; subst hb
      obtain ⟨z, e, _⟩ := hst24; rw [e]; simp) (fun H' c => SqL.of (c.keep la24 (by simpa using last))) (fun H' c => ⟨hst24.on0 c, [], .nil, rfl, rfl, by simp⟩) ?_ ?_
    · rintro D i x acc H25 hx nD2 dS c25 hD2 ⟨hst25, lx, hL, hln, hll, hlm⟩
      obtain ⟨li, hli, rfl⟩ := map_get hx
      have hil : i < ls.length := (List.getElem?_eq_some_iff.mp hli).1
      have nli := lsm li (List.mem_of_getElem? hli)
      walk_at "vs"
      refine ⟨rfl, ?_⟩
      walk_at "vs"
      refine ⟨st, 4, rfl, hst25, by omega, fun k H26 k0 k1 c26 hst26 => ?_⟩
      walk_at "vs"
      refine v_rng1' (by omega) (by omega) ?_
      refine v_lc_range [st] (fun i acc H' => StAt H' st ∧ ∃ ns : List Int, acc = ns.map V.int ∧ ns.length = i ∧ ∀ n ∈ ns, 0 ≤ n ∧ n < 1000000) (by
        intro b hb; rw [List.mem_singleton] at hb; subst hb
        obtain ⟨z, e, _⟩ := hst26; rw [e]; simp) (fun H' c => ⟨hst26.on0 c, [], rfl, rfl, by simp⟩) ?_ ?_
      · rintro D3 j acc H27 hj nD3 dS3 c27 hD3 ⟨hst27, ns, rfl, hnl, hnm⟩
        walk_at "vs"
        refine ⟨rfl, ?_⟩
        walk_at "vs"
        refine ⟨st, 9, rfl, hst27, by omega, fun n H28 n0 n1 c28 hst28 => ?_⟩
        refine v_lcA c27 hD3 nD3 dS3 c28 (line9' (by rw [List.length_map]; omega)) fun H29 c29 => ?_
        have Dst : st ≠ D3 := by rintro rfl; simp at dS3
        refine ⟨hst28.on c29 (by simpa using Dst), ns ++ [n], by rw [List.map_append]; rfl, by simp [hnl], fun m hm => ?_⟩
        rcases List.mem_append.mp hm with h | h
        · exact hnm m h
        · rw [List.mem_singleton] at h; subst h; exact ⟨n0, by omega⟩
      · rintro D3 acc H27 c27 nD3 hD3 ⟨hst27, ns, rfl, hnl, hnm⟩
        walk_at "vs"
        refine v_tuple_l (SqL.of hD3) fun t1 H28 nt1 c28 ht1 => ?_
        walk_at "vs"
        refine v_newT (line9 (by show 2 ≤ 10000; decide)) fun t2 H29 nt2 c29 ht2 => ?_
        have hyl := hL.length
        rw [List.length_map] at hyl
        have rr : Rp H29 (.ref t2) (lsD (li, ns)) := .tup ht2 (.cons (.str (isNm_ok nli)) (.one (.tup (c29.tup ht1) (rpA_ints ns))))
        have c2529 : Chg [st] H25 H29 := (c26.trans c27).trans (c28.trans c29).of0
        refine v_lcA c25 hD2 nD2 dS c2529 (line9' (by omega)) fun H30 c30 => ?_
        have Dst : st ≠ D := by rintro rfl; simp at dS
        refine ⟨((hst27.on0 c28).on0 c29).on c30 (by simpa using Dst), lx ++ [(li, ns)], ?_, by rw [List.map_append, hln, take_snoc hli]; rfl, by simp [hll], fun l hl => ?_⟩
        · rw [List.map_append]
          exact ((hL.on c2529).snoc rr).on c30
        · rcases List.mem_append.mp hl with h | h
          · exact hlm l h
          · rw [List.mem_singleton] at h; subst h
            exact ⟨nli, by show ns.length ≤ 12; omega, hnm⟩
    rintro D2 ys H28 c28 nD2 hth28 ⟨hst28, lx, hL, hln, hll, hlm⟩
    rw [List.length_map] at hll
    rw [List.length_map, List.take_length] at hln
    walk_at "vs"
    refine v_tuple_l (SqL.of hth28) fun t1 H29 nt1 c29 ht1 => ?_
    have c2028 : Chg [st] H20 H28 := c2024.trans c28
    have fo28 : H28 fo = some (.lst xs) := c2028.keep hfo20 (by simpa using fost)
    walk_at "vs"
    refine v_tuple_l (SqL.of (c29.at fo28)) fun t2 H30 nt2 c30 ht2 => ?_
    walk_at "vs"
    refine v_newT (line9 (by show 4 ≤ 10000; decide)) fun t3 H31 nt3 c31 ht3 => ?_
    have c2831 := (c29.trans c30).trans c31
    have c2031 : Chg [st] H20 H31 := c2028.trans c2831.of0
    have c1831 : Chg [st, lf, fo] H18 H31 := (c19.of0.trans (c20.mono (by simp))).trans (c2031.mono (by simp))
    have rp31 := rp.on c2031
    have hB31 := ((hB.on c24).on c28).on c2831
    have hpa31 : H31 pa = some (.tup acc) := c2831.tup (c28.tup hpa)
    refine q _ ⟨bx, lx, fs, rs⟩ H31 ?_ (hst28.on0 c2831) (.tup ht3 (.cons (.tup hpa31 hB31) (.cons (.tup ((c30.trans c31).tup ht1) (hL.on c2831)) (.cons (.tup (c31.tup ht2) (hR.on c1831)) (.one rp31))))) ⟨by show bx.length ≤ 3; omega, by show lx.length ≤ 3; omega, by show fs.length ≤ 4; omega, hbm, hlm, hfm, ⟨⟨_, nm_of hm, ok⟩, by show Rw.dpts rs ≤ 5; omega⟩, by show fcnt fs + Rw.cnts rs ≤ 62; omega, by show (bx.map (·.1) ++ lx.map (·.1)).Nodup; rw [hbn, hln]; exact hndp⟩
    have big : Chg [st] H H17 := c1.trans (cc4.trans (c48.trans (c811.trans (c1114.trans (c15.trans c1517.of0)))))
    have dn : ∀ {b : Addr}, H15 b = none → H b = none := fun h => (c1.trans (cc4.trans (c48.trans (c811.trans (c1114.trans c15))))).dom h
    refine big.trans' (c1720.trans (c2031.mono (by simp))) fun l hm => ?_
    simp only [List.mem_cons, List.not_mem_nil, or_false] at hm
    rcases hm with rfl | rfl | rfl
    · exact .inl (by simp)
    · exact .inr (dn nlf)
    · exact .inr (dn (c16.dom nfo))
abbrev s_own_names : Stmt := topS 13
theorem sc_own_names : FnScope ["program", "found", "title", "params", "owns", "rows"] ["program"] (defScope s_own_names) := ⟨rfl, rfl, rfl, by decide +kernel, rfl, by decide +kernel, by decide +kernel⟩
theorem ok_own_names (T : Txt K mg) (D : DefAt K mg "own_names" s_own_names) : Own P w K mg base "own_names" 1 ["program"] (sp_own) := by
  refine own_of D (fun _ _ _ _ _ _ us hl => match us, hl with | [_], _ => rfl) (fnW_of (N := ["program", "found", "title", "params", "owns", "rows"]) sc_own_names (fun vs H Q E h => ?_) (fun f cdv A outer s H vs Q E hr h => ?_))
  · obtain ⟨v, p, rfl, _⟩ := h; rfl
  · have nd := sc_own_names.nd
    have hu := L2H.roomH_of hr
    refine ⟨_, (pss_cons (ps_set (i := 1) nd rfl (by first | exact Or.inl rfl | exact Or.inr rfl) (pe_lst pa_nil))
      (pss_cons (ps_for (passes_of rfl) rfl (pi_u (K := K) (pe_ix (ix_u (K := K) hu) (pv 0) pe_int (fun _ _ => rfl))) (pg_tupU (K := K) (n := 4) rfl (pgs_cons (pg_name (i := 2) nd rfl (by first | exact Or.inl rfl | exact Or.inr rfl)) (pgs_cons (pg_name (i := 3) nd rfl (by first | exact Or.inl rfl | exact Or.inr rfl)) (pgs_cons (pg_name (i := 4) nd rfl (by first | exact Or.inl rfl | exact Or.inr rfl)) (pgs_cons (pg_name (i := 5) nd rfl (by first | exact Or.inl rfl | exact Or.inr rfl)) pgs_nil)))))
      (pss_one (ps_aug (i := 1) nd rfl (by first | exact Or.inl rfl | exact Or.inr rfl) (pe_callTy (call_ulist (K := K) rfl) (by rfl) T.n_list (by decide +kernel) (pa_cons (pe_op (op_uadd (K := K)) (pv 3) (pv 4)) pa_nil)) ip_cat)))
      (pss_one (ps_ret (pv 1))))), ?_⟩
    clear nd
    obtain ⟨v, p, rfl, hr, hp, q⟩ := h
    obtain ⟨a, v1, v2, v3, v4, rfl, ha, r1, r2, r3, r4⟩ := Pg.parts hr
    obtain ⟨b3, x3, rfl, hb3, h3⟩ := r3.tupI
    have l3 := h3.length
    rw [List.length_map] at l3
    have hol := owns_len (fs := p.fs) fun f hf => ⟨(hp.nf f hf).2.1, (hp.nf f hf).2.2.1⟩
    have hlf := hp.lf
    walk_at "vs"
    refine v_newL (line9 (by show 0 ≤ 10000; decide)) fun fo H1 nfo c1 hfo => ?_
    walk_at "vs"
    refine v_ix_t (SqT.of (c1.tup ha)) rfl ?_
    walk_at "vs"
    refine v_it_t (SqT.of (c1.tup hb3)) ?_
    refine v_for_tup (xs := x3) (fun i σ H' => ∃ (v2 v3 v4 v5 : Option V), σ = [some (.ref a), some (.ref fo), v2, v3, v4, v5] ∧ Chg [fo] H1 H' ∧ H' fo = some (.lst (((p.fs.take i).flatMap fun f => f.2.1 ++ f.2.2.1).map V.str)))
      ⟨_, _, _, _, rfl, .refl, hfo⟩ (fun i σ H' _ ⟨_, _, _, _, _, c, _⟩ => SqT.of (c.tup (c1.tup hb3))) ?_ ?_
    · rintro i x σ H2 hi ⟨v2, v3, v4, v5, rfl, c2, hf2⟩
      obtain ⟨d, hd, rx⟩ := ((h3.on c1).on c2).get hi
      obtain ⟨g, hgi, rfl⟩ := map_get hd
      have htake := take_snoc hgi
      have hg := hp.nf g (List.mem_of_getElem? hgi)
      have hle := owns_len (fs := p.fs.take i) fun f hf => ⟨(hp.nf f (List.mem_of_mem_take hf)).2.1, (hp.nf f (List.mem_of_mem_take hf)).2.2.1⟩
      rw [List.length_take] at hle
      obtain ⟨t, w2, w3, w4, rfl, ht, okn, q2, q3, q4⟩ := fn_parts rx
      obtain ⟨b2, y2, rfl, hb2, k2⟩ := q2.tupI
      obtain ⟨b4, y3, rfl, hb4, k3⟩ := q3.tupI
      obtain ⟨rfl, _⟩ := strs_of_rp k2
      obtain ⟨rfl, _⟩ := strs_of_rp k3
      refine v_gtup (SqT.of ht) rfl ?_
      walk_at "vs"
      refine v_add_tt hb2 hb4 (line9 (by simp only [List.length_map]; omega)) fun t5 H5 c5 ht5 => ?_
      walk_at "vs"
      refine v_list_t (SqT.of ht5) fun l6 H6 nl6 c6 hl6 => ?_
      rw [← List.map_append] at hl6
      have c26 := c5.trans c6
      refine v_ipL (c26.at hf2) hl6 (line9 (by simp only [List.length_map, List.length_append]; exact Nat.le_trans (Nat.add_le_add hle (Nat.le_refl _)) (by have := List.length_take (i := i) (l := p.fs); omega))) fun H7 c7 hf7 => ?_
      refine ⟨_, _, _, _, rfl, c2.trans (c26.of0.trans c7), ?_⟩
      rw [hf7, htake, List.flatMap_append, List.flatMap_cons, List.flatMap_nil, List.append_nil, List.map_append (l₁ := List.flatMap _ _)]
    · rintro σ H2 ⟨v2, v3, v4, v5, rfl, c2, hf2⟩
      rw [l3, List.take_length] at hf2
      walk_at "vs"
      refine q fo H2 nfo (c1.trans' c2 fun l hm => ?_) hf2
      rw [List.mem_singleton] at hm; subst hm; exact .inr nfo
abbrev s_cell_of : Stmt := topS 14
theorem sc_cell_of : FnScope ["program", "word", "name", "mark", "depth", "box", "one"] ["program", "word"] (defScope s_cell_of) := ⟨rfl, rfl, rfl, by decide +kernel, rfl, by decide +kernel, by decide +kernel⟩
theorem ok_cell_of (T : Txt K mg) (D : DefAt K mg "cell_of" s_cell_of) (O_own_names : Own P w K mg base "own_names" 1 ["program"] (sp_own)) : Own P w K mg base "cell_of" 2 ["program", "word"] (sp_cellof T.x_NoCell.C) := by
  refine own_of D (fun _ _ _ _ _ _ us hl => match us, hl with | [_, _], _ => rfl) (fnW_of (N := ["program", "word", "name", "mark", "depth", "box", "one"]) sc_cell_of (fun vs H Q E h => ?_) (fun f cdv A outer s H vs Q E hr h => ?_))
  · obtain ⟨v, p, w, rfl, _⟩ := h; rfl
  · have nd := sc_cell_of.nd
    have hu := L2H.roomH_of hr
    have TK : L2N.Takes (cxOf (L2N.CX P w) P w K mg base ["program", "word", "name", "mark", "depth", "box", "one"] "cell_of" (defScope s_cell_of) f cdv A outer s H E) (fun cls d _ H => E cls d H) := L2N.takes_of rfl rfl rfl rfl
    refine ⟨_, (pss_cons (ps_asg (pe_bm PySem.F.plainAttrs_str PySem.F.slot_str_partition PySem.F.type_str_partition mt_upart (pv 1) (pa_cons pe_str pa_nil)) (pg_tupU (K := K) (n := 3) rfl (pgs_cons (pg_name (i := 2) nd rfl (by first | exact Or.inl rfl | exact Or.inr rfl)) (pgs_cons (pg_name (i := 3) nd rfl (by first | exact Or.inl rfl | exact Or.inr rfl)) (pgs_cons (pg_name (i := 4) nd rfl (by first | exact Or.inl rfl | exact Or.inr rfl)) pgs_nil)))))
      (pss_cons (ps_if (pt_cmpR (op_une (K := K) hu) (pv 3) pe_str (nomark _))
      (pss_cons (ps_if (PW.pt (pw_and (pt_cmpR (op_ueq (K := K) hu) (pe_callB (call_ulen (K := K)) (by rfl) T.n_len (by decide +kernel) (pa_cons (pv 4) pa_nil)) pe_int (nomark _)) (pw_and (pt_cmpR (op_uin (K := K) hu) (pv 4) (pe_con_ T.c_DEPTHS rfl) rfl) (pw_and1 (pt_cmpR (op_uin (K := K) hu) (pv 2) (pe_own O_own_names (by decide) hr rfl (fun σ => L2N.passAt TK σ) (pa_cons (pv 0) pa_nil)) rfl)))))
      (pss_one (ps_ret (pe_tup (pa_cons pe_str (pa_cons (pe_callTy call_uintS (by rfl) T.n_int (by decide +kernel) (pa_cons (pv 4) pa_nil)) (pa_cons (pv 2) pa_nil)))))) pss_nil)
      (pss_one (ps_raiseU T.x_NoCell TK))) pss_nil)
      (pss_cons (ps_if (pt_cmpR (op_uin (K := K) hu) (pv 2) (pe_lc (own := [("box", 5)]) rfl nd (pi_u (K := K) (pe_ix (ix_u (K := K) hu) (pv 0) pe_int (fun _ _ => rfl))) (blkOk_by (N := ["program", "word", "name", "mark", "depth", "box", "one"]) (sc := defScope s_cell_of) (by decide +kernel)) (fun _ _ _ _ _ => (pg_name (i := 5) nd rfl (by first | exact Or.inl rfl | exact Or.inr rfl))) (fun _ _ _ _ _ => pts_nil) (fun _ _ _ _ _ => (pe_ix (ix_u (K := K) hu) (pv 5) pe_int (fun _ _ => rfl)))) rfl)
      (pss_one (ps_ret (pe_tup (pa_cons pe_str (pa_cons (pv 2) pa_nil))))) pss_nil)
      (pss_cons (ps_if (pt_cmpR (op_uin (K := K) hu) (pv 2) (pe_lc (own := [("one", 6)]) rfl nd (pi_u (K := K) (pe_ix (ix_u (K := K) hu) (pv 0) pe_int (fun _ _ => rfl))) (blkOk_by (N := ["program", "word", "name", "mark", "depth", "box", "one"]) (sc := defScope s_cell_of) (by decide +kernel)) (fun _ _ _ _ _ => (pg_name (i := 6) nd rfl (by first | exact Or.inl rfl | exact Or.inr rfl))) (fun _ _ _ _ _ => pts_nil) (fun _ _ _ _ _ => (pe_ix (ix_u (K := K) hu) (pv 6) pe_int (fun _ _ => rfl)))) rfl)
      (pss_one (ps_ret (pe_tup (pa_cons pe_str (pa_cons (pv 2) pa_nil))))) pss_nil)
      (pss_one (ps_raiseU T.x_NoCell TK)))))), ?_⟩
    clear nd
    obtain ⟨v, p, w, rfl, hr, hp, hw, q, hE⟩ := h
    obtain ⟨a, v1, v2, v3, v4, rfl, ha, r1, r2, r3, r4⟩ := Pg.parts hr
    obtain ⟨b1, x1, rfl, hb1, h1⟩ := r1.tupI
    obtain ⟨b2, x2, rfl, hb2, h2⟩ := r2.tupI
    have l1 := h1.length
    have l2 := h2.length
    rw [List.length_map] at l1 l2
    have hlb := hp.lb; have hll := hp.ll; have hlf := hp.lf
    obtain ⟨pl1, pl2⟩ := part_len w
    have hW : cellW p w = cellW p w := rfl
    conv at hW => rhs; unfold cellW
    generalize hN : (Txt.partition w atS).1 = n at *
    generalize hM : (Txt.partition w atS).2.1 = m at *
    generalize hD : (Txt.partition w atS).2.2 = d at *
    walk_at "vs"
    refine v_part_s rfl (line9 (by omega)) fun t H1 nt c1 ht => ?_
    have ht : H1 t = some (.tup [.str n, .str m, .str d]) := by rw [ht, ← hN, ← hM, ← hD]; rfl
    refine v_gtup (SqT.of ht) rfl ?_
    walk_at "vs"
    refine v_iteN (fun hm => ?_) (fun hm => ?_)
    · rw [if_neg hm] at hW
      walk_at "vs"
      refine v_len_s (line9 (by omega)) ?_
      walk_at "vs"
      have no : cellW p w = none → ∀ H', Chg [] H H' → E (.ref T.x_NoCell.C) none H' := hE
      refine v_iteD (fun hd1 => ?_) (fun hd1 => ?_)
      · obtain ⟨c, rfl⟩ := len_one (z := d) (by exact_mod_cast hd1)
        simp only at hW
        walk_at "vs"
        refine v_in_sg ?_
        rw [depths_eq]
        walk_at "vs"
        refine v_iteD (fun hc => ?_) (fun hc => ?_)
        · walk_at "vs"
          refine ⟨.ref a, p, rfl, hr.on c1, hp, fun o H2 no2 c2 ho => ?_⟩
          refine v_in_ls _ ho ?_
          walk_at "vs"
          refine v_iteD (fun hn => ?_) (fun hn => ?_)
          · rw [if_pos ⟨hc, hn⟩] at hW
            walk_at "vs"
            refine v_intS (dig_int c hc) (by show 1 ≤ 640; decide) ?_
            walk_at "vs"
            refine v_newT (line9 (by show 3 ≤ 10000; decide)) fun t3 H3 nt3 c3 ht3 => ?_
            exact q _ t3 H3 hW ((c1.trans c2).trans c3) ht3
          · rw [if_neg (fun z => hn z.2)] at hW
            walk_at "vs"
            exact no hW H2 (c1.trans c2)
        · rw [if_neg (fun z => hc z.1)] at hW
          walk_at "vs"
          exact no hW H1 c1
      · have hW2 : cellW p w = none := by
          rw [hW]
          split
          · rename_i c hc
            exfalso
            apply hd1
            have : d.cps.toList.length = 1 := by rw [hc]; rfl
            rw [Array.length_toList] at this
            exact_mod_cast this
          · rfl
        walk_at "vs"
        exact no hW2 H1 c1
    · rw [if_pos hm] at hW
      walk_at "vs"
      refine v_ix_t (SqT.of (c1.tup ha)) rfl ?_
      walk_at "vs"
      refine v_it_t (SqT.of (c1.tup hb1)) ?_
      refine v_lc_tup (xs := x1) [] (fun i acc H' => acc = ((p.bx.take i).map (·.1)).map V.str) (by simp) (fun H' c => SqT.of (c.tup (c1.tup hb1))) (fun H' c => rfl) ?_ ?_
      · rintro D i x acc H2 hi nD dS c2 hDl rfl
        obtain ⟨y, hy, rx⟩ := ((h1.on c1).on c2).get hi
        obtain ⟨b, hbi, rfl⟩ := map_get hy
        have htake := take_snoc hbi
        obtain ⟨t2, ys, rfl, ht2, hys⟩ := Rp.tupI rx
        obtain ⟨y1, rfl, hy1, _⟩ := hys.strH
        walk_at "vs"
        refine ⟨rfl, ?_⟩
        walk_at "vs"
        refine v_ix_t (SqT.of ht2) (atI_0 _ _) ?_
        refine v_lcA c2 hDl nD dS .refl (line9' (by simp only [List.length_map, List.length_take]; omega)) fun H3 c3 => ?_
        rw [htake, List.map_append, List.map_append]; rfl
      · rintro D acc H2 c2 nD hDl rfl
        rw [l1, List.take_length] at hDl
        refine v_in_ls _ hDl ?_
        walk_at "vs"
        have c12 := c1.trans c2
        refine v_iteD (fun hn => ?_) (fun hn => ?_)
        · rw [if_pos hn] at hW
          walk_at "vs"
          refine v_newT (line9 (by show 2 ≤ 10000; decide)) fun t3 H3 nt3 c3 ht3 => ?_
          exact q _ t3 H3 hW (c12.trans c3) ht3
        · rw [if_neg hn] at hW
          walk_at "vs"
          refine v_ix_t (SqT.of (c12.tup ha)) rfl ?_
          walk_at "vs"
          refine v_it_t (SqT.of (c12.tup hb2)) ?_
          refine v_lc_tup (xs := x2) [] (fun i acc H' => acc = ((p.ls.take i).map (·.1)).map V.str) (by simp) (fun H' c => SqT.of (c.tup (c12.tup hb2))) (fun H' c => rfl) ?_ ?_
          · rintro D2 i x acc H3 hi nD2 dS2 c3 hD2 rfl
            obtain ⟨y, hy, rx⟩ := ((h2.on c12).on c3).get hi
            obtain ⟨b, hbi, rfl⟩ := map_get hy
            have htake := take_snoc hbi
            obtain ⟨t2, ys, rfl, ht2, hys⟩ := Rp.tupI rx
            obtain ⟨y1, rfl, hy1, _⟩ := hys.strH
            walk_at "vs"
            refine ⟨rfl, ?_⟩
            walk_at "vs"
            refine v_ix_t (SqT.of ht2) (atI_0 _ _) ?_
            refine v_lcA c3 hD2 nD2 dS2 .refl (line9' (by simp only [List.length_map, List.length_take]; omega)) fun H4 c4 => ?_
            rw [htake, List.map_append, List.map_append]; rfl
          · rintro D2 acc H3 c3 nD2 hD2 rfl
            rw [l2, List.take_length] at hD2
            refine v_in_ls _ hD2 ?_
            walk_at "vs"
            refine v_iteD (fun hn2 => ?_) (fun hn2 => ?_)
            · rw [if_pos hn2] at hW
              walk_at "vs"
              refine v_newT (line9 (by show 2 ≤ 10000; decide)) fun t3 H4 nt3 c4 ht3 => ?_
              exact q _ t3 H4 hW ((c12.trans c3).trans c4) ht3
            · rw [if_neg hn2] at hW
              walk_at "vs"
              exact hE hW H3 (c12.trans c3)
abbrev s_cell_word : Stmt := topS 15
theorem sc_cell_word : FnScope ["cell"] ["cell"] (defScope s_cell_word) := ⟨rfl, rfl, rfl, by decide +kernel, rfl, by decide +kernel, by decide +kernel⟩
theorem ok_cell_word (T : Txt K mg) (D : DefAt K mg "cell_word" s_cell_word) : Own P w K mg base "cell_word" 1 ["cell"] (sp_cword) := by
  refine own_of D (fun _ _ _ _ _ _ us hl => match us, hl with | [_], _ => rfl) (fnW_of (N := ["cell"]) sc_cell_word (fun vs H Q E h => ?_) (fun f cdv A outer s H vs Q E hr h => ?_))
  · obtain ⟨t, p, w, c, rfl, _⟩ := h; rfl
  · have nd := sc_cell_word.nd
    have hu := L2H.roomH_of hr
    refine ⟨_, (pss_cons (ps_if (pt_cmpR (op_ueq (K := K) hu) (pe_ix (ix_u (K := K) hu) (pv 0) pe_int (fun _ _ => rfl)) pe_str (nomark _))
      (pss_one (ps_ret (pe_op (op_uadd (K := K)) (pe_op (op_uadd (K := K)) (pe_ix (ix_u (K := K) hu) (pv 0) pe_int (fun _ _ => rfl)) pe_str) (pe_callTy call_ustrX (by rfl) T.n_str (by decide +kernel) (pa_cons (pe_ix (ix_u (K := K) hu) (pv 0) pe_int (fun _ _ => rfl)) pa_nil))))) pss_nil)
      (pss_one (ps_ret (pe_ix (ix_u (K := K) hu) (pv 0) pe_int (fun _ _ => rfl))))), ?_⟩
    clear nd
    obtain ⟨t, p, w, c, rfl, ht, hp, hc, q⟩ := h
    walk_at "vs"
    rcases seqC_form hc with ⟨n, rfl⟩ | ⟨n, rfl⟩ | ⟨n, k, hk, hn, rfl⟩
    · replace ht : H t = some (.tup [.str (Str.ofString "box"), .str n]) := ht
      refine v_ix_t (SqT.of ht) rfl ?_
      walk_at "vs"
      rw [neS (a := "box") (b := "own") (by decide)]
      walk_at "vs"
      refine v_ix_t (SqT.of ht) rfl ?_
      exact q
    · replace ht : H t = some (.tup [.str (Str.ofString "list"), .str n]) := ht
      refine v_ix_t (SqT.of ht) rfl ?_
      walk_at "vs"
      rw [neS (a := "list") (b := "own") (by decide)]
      walk_at "vs"
      refine v_ix_t (SqT.of ht) rfl ?_
      exact q
    · replace ht : H t = some (.tup [.str (Str.ofString "own"), .int ((k : Int) + 1), .str n]) := ht
      have hnl := (isNm_len (hp.no n hn)).2
      have hkl := iS_len (i := (k : Int) + 1) (by omega) (by omega)
      refine v_ix_t (SqT.of ht) rfl ?_
      walk_at "vs"
      rw [eqS]
      walk_at "vs"
      refine v_ix_t (SqT.of ht) rfl ?_
      walk_at "vs"
      refine v_add_ss (line9 (by show n.length + 1 ≤ 10000; omega)) ?_
      walk_at "vs"
      refine v_ix_t (SqT.of ht) rfl ?_
      walk_at "vs"
      refine v_str_i (log2_small (by omega) (by omega)) ?_
      refine v_add_ss (line9 (by rw [sla]; show n.length + 1 + (iS _).length ≤ 10000; omega)) ?_
      exact q
abbrev s_word_of : Stmt := topS 16
theorem sc_word_of : FnScope ["error"] ["error"] (defScope s_word_of) := ⟨rfl, rfl, rfl, by decide +kernel, rfl, by decide +kernel, by decide +kernel⟩
theorem ok_word_of (T : Txt K mg) (D : DefAt K mg "word_of" s_word_of) : Own P w K mg base "word_of" 1 ["error"] (sp_wordof T.x_NoProgram.C T.x_NoRow.C T.x_TooLong.C T.x_NoWorld.C T.x_NoText.C T.x_NoStep.C T.x_NoCell.C T.x_NoDoor.C T.x_NoWord.C) := by
  refine own_of D (fun _ _ _ _ _ _ us hl => match us, hl with | [_], _ => rfl) (fnW_of (N := ["error"]) sc_word_of (fun vs H Q E h => ?_) (fun f cdv A outer s H vs Q E hr h => ?_))
  · obtain ⟨a, k, rfl, _⟩ := h; rfl
  · have nd := sc_word_of.nd
    have hu := L2H.roomH_of hr
    refine ⟨_, (pss_cons (ps_if (pt_u (K := K) (pe_callB (call_isX (K := K)) (by rfl) T.n_isinstance (by decide +kernel) (pa_cons (pv 0) (pa_cons (pe_glob (v := .ref (T.x_NoProgram).C) rfl (T.x_NoProgram).g rfl) pa_nil))))
      (pss_one (ps_ret pe_str)) pss_nil)
      (pss_cons (ps_if (pt_u (K := K) (pe_callB (call_isX (K := K)) (by rfl) T.n_isinstance (by decide +kernel) (pa_cons (pv 0) (pa_cons (pe_glob (v := .ref (T.x_NoRow).C) rfl (T.x_NoRow).g rfl) pa_nil))))
      (pss_one (ps_ret pe_str)) pss_nil)
      (pss_cons (ps_if (pt_u (K := K) (pe_callB (call_isX (K := K)) (by rfl) T.n_isinstance (by decide +kernel) (pa_cons (pv 0) (pa_cons (pe_glob (v := .ref (T.x_TooLong).C) rfl (T.x_TooLong).g rfl) pa_nil))))
      (pss_one (ps_ret pe_str)) pss_nil)
      (pss_cons (ps_if (pt_u (K := K) (pe_callB (call_isX (K := K)) (by rfl) T.n_isinstance (by decide +kernel) (pa_cons (pv 0) (pa_cons (pe_glob (v := .ref (T.x_NoWorld).C) rfl (T.x_NoWorld).g rfl) pa_nil))))
      (pss_one (ps_ret pe_str)) pss_nil)
      (pss_cons (ps_if (pt_u (K := K) (pe_callB (call_isX (K := K)) (by rfl) T.n_isinstance (by decide +kernel) (pa_cons (pv 0) (pa_cons (pe_glob (v := .ref (T.x_NoText).C) rfl (T.x_NoText).g rfl) pa_nil))))
      (pss_one (ps_ret pe_str)) pss_nil)
      (pss_cons (ps_if (pt_u (K := K) (pe_callB (call_isX (K := K)) (by rfl) T.n_isinstance (by decide +kernel) (pa_cons (pv 0) (pa_cons (pe_glob (v := .ref (T.x_NoStep).C) rfl (T.x_NoStep).g rfl) pa_nil))))
      (pss_one (ps_ret pe_str)) pss_nil)
      (pss_cons (ps_if (pt_u (K := K) (pe_callB (call_isX (K := K)) (by rfl) T.n_isinstance (by decide +kernel) (pa_cons (pv 0) (pa_cons (pe_glob (v := .ref (T.x_NoCell).C) rfl (T.x_NoCell).g rfl) pa_nil))))
      (pss_one (ps_ret pe_str)) pss_nil)
      (pss_cons (ps_if (pt_u (K := K) (pe_callB (call_isX (K := K)) (by rfl) T.n_isinstance (by decide +kernel) (pa_cons (pv 0) (pa_cons (pe_glob (v := .ref (T.x_NoDoor).C) rfl (T.x_NoDoor).g rfl) pa_nil))))
      (pss_one (ps_ret pe_str)) pss_nil)
      (pss_one (ps_ret pe_str)))))))))), ?_⟩
    clear nd
    obtain ⟨a, k, rfl, hk, ha, q⟩ := h
    have hk : k = 0 ∨ k = 1 ∨ k = 2 ∨ k = 3 ∨ k = 4 ∨ k = 5 ∨ k = 6 ∨ k = 7 ∨ k = 8 := by omega
    walk_at "vs"
    rcases hk with rfl | rfl | rfl | rfl | rfl | rfl | rfl | rfl | rfl
    · refine v_isX ha T.x_NoProgram.cc (fun _ z => z) T.kit_NoProgram__NoProgram ?_
      walk_at "vs"
      exact q
    · refine v_isX ha T.x_NoRow.cc (fun _ z => z) T.kit_NoRow__NoProgram ?_
      walk_at "vs"
      refine v_isX ha T.x_NoRow.cc (fun _ z => z) T.kit_NoRow__NoRow ?_
      walk_at "vs"
      exact q
    · refine v_isX ha T.x_TooLong.cc (fun _ z => z) T.kit_TooLong__NoProgram ?_
      walk_at "vs"
      refine v_isX ha T.x_TooLong.cc (fun _ z => z) T.kit_TooLong__NoRow ?_
      walk_at "vs"
      refine v_isX ha T.x_TooLong.cc (fun _ z => z) T.kit_TooLong__TooLong ?_
      walk_at "vs"
      exact q
    · refine v_isX ha T.x_NoWorld.cc (fun _ z => z) T.kit_NoWorld__NoProgram ?_
      walk_at "vs"
      refine v_isX ha T.x_NoWorld.cc (fun _ z => z) T.kit_NoWorld__NoRow ?_
      walk_at "vs"
      refine v_isX ha T.x_NoWorld.cc (fun _ z => z) T.kit_NoWorld__TooLong ?_
      walk_at "vs"
      refine v_isX ha T.x_NoWorld.cc (fun _ z => z) T.kit_NoWorld__NoWorld ?_
      walk_at "vs"
      exact q
    · refine v_isX ha T.x_NoText.cc (fun _ z => z) T.kit_NoText__NoProgram ?_
      walk_at "vs"
      refine v_isX ha T.x_NoText.cc (fun _ z => z) T.kit_NoText__NoRow ?_
      walk_at "vs"
      refine v_isX ha T.x_NoText.cc (fun _ z => z) T.kit_NoText__TooLong ?_
      walk_at "vs"
      refine v_isX ha T.x_NoText.cc (fun _ z => z) T.kit_NoText__NoWorld ?_
      walk_at "vs"
      refine v_isX ha T.x_NoText.cc (fun _ z => z) T.kit_NoText__NoText ?_
      walk_at "vs"
      exact q
    · refine v_isX ha T.x_NoStep.cc (fun _ z => z) T.kit_NoStep__NoProgram ?_
      walk_at "vs"
      refine v_isX ha T.x_NoStep.cc (fun _ z => z) T.kit_NoStep__NoRow ?_
      walk_at "vs"
      refine v_isX ha T.x_NoStep.cc (fun _ z => z) T.kit_NoStep__TooLong ?_
      walk_at "vs"
      refine v_isX ha T.x_NoStep.cc (fun _ z => z) T.kit_NoStep__NoWorld ?_
      walk_at "vs"
      refine v_isX ha T.x_NoStep.cc (fun _ z => z) T.kit_NoStep__NoText ?_
      walk_at "vs"
      refine v_isX ha T.x_NoStep.cc (fun _ z => z) T.kit_NoStep__NoStep ?_
      walk_at "vs"
      exact q
    · refine v_isX ha T.x_NoCell.cc (fun _ z => z) T.kit_NoCell__NoProgram ?_
      walk_at "vs"
      refine v_isX ha T.x_NoCell.cc (fun _ z => z) T.kit_NoCell__NoRow ?_
      walk_at "vs"
      refine v_isX ha T.x_NoCell.cc (fun _ z => z) T.kit_NoCell__TooLong ?_
      walk_at "vs"
      refine v_isX ha T.x_NoCell.cc (fun _ z => z) T.kit_NoCell__NoWorld ?_
      walk_at "vs"
      refine v_isX ha T.x_NoCell.cc (fun _ z => z) T.kit_NoCell__NoText ?_
      walk_at "vs"
      refine v_isX ha T.x_NoCell.cc (fun _ z => z) T.kit_NoCell__NoStep ?_
      walk_at "vs"
      refine v_isX ha T.x_NoCell.cc (fun _ z => z) T.kit_NoCell__NoCell ?_
      walk_at "vs"
      exact q
    · refine v_isX ha T.x_NoDoor.cc (fun _ z => z) T.kit_NoDoor__NoProgram ?_
      walk_at "vs"
      refine v_isX ha T.x_NoDoor.cc (fun _ z => z) T.kit_NoDoor__NoRow ?_
      walk_at "vs"
      refine v_isX ha T.x_NoDoor.cc (fun _ z => z) T.kit_NoDoor__TooLong ?_
      walk_at "vs"
      refine v_isX ha T.x_NoDoor.cc (fun _ z => z) T.kit_NoDoor__NoWorld ?_
      walk_at "vs"
      refine v_isX ha T.x_NoDoor.cc (fun _ z => z) T.kit_NoDoor__NoText ?_
      walk_at "vs"
      refine v_isX ha T.x_NoDoor.cc (fun _ z => z) T.kit_NoDoor__NoStep ?_
      walk_at "vs"
      refine v_isX ha T.x_NoDoor.cc (fun _ z => z) T.kit_NoDoor__NoCell ?_
      walk_at "vs"
      refine v_isX ha T.x_NoDoor.cc (fun _ z => z) T.kit_NoDoor__NoDoor ?_
      walk_at "vs"
      exact q
    · refine v_isX ha T.x_NoWord.cc (fun _ z => z) T.kit_NoWord__NoProgram ?_
      walk_at "vs"
      refine v_isX ha T.x_NoWord.cc (fun _ z => z) T.kit_NoWord__NoRow ?_
      walk_at "vs"
      refine v_isX ha T.x_NoWord.cc (fun _ z => z) T.kit_NoWord__TooLong ?_
      walk_at "vs"
      refine v_isX ha T.x_NoWord.cc (fun _ z => z) T.kit_NoWord__NoWorld ?_
      walk_at "vs"
      refine v_isX ha T.x_NoWord.cc (fun _ z => z) T.kit_NoWord__NoText ?_
      walk_at "vs"
      refine v_isX ha T.x_NoWord.cc (fun _ z => z) T.kit_NoWord__NoStep ?_
      walk_at "vs"
      refine v_isX ha T.x_NoWord.cc (fun _ z => z) T.kit_NoWord__NoCell ?_
      walk_at "vs"
      refine v_isX ha T.x_NoWord.cc (fun _ z => z) T.kit_NoWord__NoDoor ?_
      walk_at "vs"
      exact q
abbrev s__law_class : Stmt := topS 26
theorem sc__law_class : FnScope ["_law_e", "_law_found", "_law_kind"] ["_law_e"] (defScope s__law_class) := ⟨rfl, rfl, rfl, by decide +kernel, rfl, by decide +kernel, by decide +kernel⟩
theorem ok__law_class (T : Txt K mg) (D : DefAt K mg "_law_class" s__law_class) : OwnP P w K mg base "_law_class" 1 ["_law_e"] (sp_class T.x_NoCell.C) := by
  refine ownP_of (N := ["_law_e", "_law_found", "_law_kind"]) D (fun _ _ _ _ _ _ us hl => match us, hl with | [_], _ => rfl) sc__law_class (fun a cls d vs H Q E h => ?_) (fun f cdv A outer s H vs Q E e cls d hot hz hr h => ?_)
  · obtain ⟨rfl, _⟩ := h; rfl
  · have nd := sc__law_class.nd
    have hu := hr
    refine ⟨_, (pss_cons (ps_set (i := 1) nd rfl (by first | exact Or.inl rfl | exact Or.inr rfl) (pe_lst pa_nil))
      (pss_cons (L2H.ps_forH (passes_of rfl) ⟨e, hot, List.mem_cons_self⟩ (pi_tupH (K := K) (pe_tup (pa_cons (pe_callB (call_isP (K := K) (e := e) List.mem_cons_self hz (hot_fields hot)) (by rfl) T.n_isinstance (by decide +kernel) (pa_cons (pv 0) (pa_cons (pe_glob (v := .ref (T.x_NoProgram).C) rfl (T.x_NoProgram).g rfl) pa_nil))) (pa_cons (pe_callB (call_isP (K := K) (e := e) List.mem_cons_self hz (hot_fields hot)) (by rfl) T.n_isinstance (by decide +kernel) (pa_cons (pv 0) (pa_cons (pe_glob (v := .ref (T.x_NoRow).C) rfl (T.x_NoRow).g rfl) pa_nil))) (pa_cons (pe_callB (call_isP (K := K) (e := e) List.mem_cons_self hz (hot_fields hot)) (by rfl) T.n_isinstance (by decide +kernel) (pa_cons (pv 0) (pa_cons (pe_glob (v := .ref (T.x_TooLong).C) rfl (T.x_TooLong).g rfl) pa_nil))) (pa_cons (pe_callB (call_isP (K := K) (e := e) List.mem_cons_self hz (hot_fields hot)) (by rfl) T.n_isinstance (by decide +kernel) (pa_cons (pv 0) (pa_cons (pe_glob (v := .ref (T.x_NoWorld).C) rfl (T.x_NoWorld).g rfl) pa_nil))) pa_nil)))))) (pg_name (i := 2) nd rfl (by first | exact Or.inl rfl | exact Or.inr rfl))
      (pss_one (ps_expr (pe_bm PySem.F.plainAttrs_list PySem.F.slot_list_append PySem.F.type_list_append mt_append (pv 1) (pa_cons (pv 2) pa_nil)))))
      (pss_cons (L2H.ps_forH (passes_of rfl) ⟨e, hot, List.mem_cons_self⟩ (pi_tupH (K := K) (pe_tup (pa_cons (pe_callB (call_isP (K := K) (e := e) List.mem_cons_self hz (hot_fields hot)) (by rfl) T.n_isinstance (by decide +kernel) (pa_cons (pv 0) (pa_cons (pe_glob (v := .ref (T.x_NoText).C) rfl (T.x_NoText).g rfl) pa_nil))) (pa_cons (pe_callB (call_isP (K := K) (e := e) List.mem_cons_self hz (hot_fields hot)) (by rfl) T.n_isinstance (by decide +kernel) (pa_cons (pv 0) (pa_cons (pe_glob (v := .ref (T.x_NoStep).C) rfl (T.x_NoStep).g rfl) pa_nil))) (pa_cons (pe_callB (call_isP (K := K) (e := e) List.mem_cons_self hz (hot_fields hot)) (by rfl) T.n_isinstance (by decide +kernel) (pa_cons (pv 0) (pa_cons (pe_glob (v := .ref (T.x_NoCell).C) rfl (T.x_NoCell).g rfl) pa_nil))) (pa_cons (pe_callB (call_isP (K := K) (e := e) List.mem_cons_self hz (hot_fields hot)) (by rfl) T.n_isinstance (by decide +kernel) (pa_cons (pv 0) (pa_cons (pe_glob (v := .ref (T.x_NoDoor).C) rfl (T.x_NoDoor).g rfl) pa_nil))) pa_nil)))))) (pg_name (i := 2) nd rfl (by first | exact Or.inl rfl | exact Or.inr rfl))
      (pss_one (ps_expr (pe_bm PySem.F.plainAttrs_list PySem.F.slot_list_append PySem.F.type_list_append mt_append (pv 1) (pa_cons (pv 2) pa_nil)))))
      (pss_cons (ps_expr (pe_bm PySem.F.plainAttrs_list PySem.F.slot_list_append PySem.F.type_list_append mt_append (pv 1) (pa_cons (pe_callB (call_isP (K := K) (e := e) List.mem_cons_self hz (hot_fields hot)) (by rfl) T.n_isinstance (by decide +kernel) (pa_cons (pv 0) (pa_cons (pe_glob (v := .ref (T.x_NoWord).C) rfl (T.x_NoWord).g rfl) pa_nil))) pa_nil)))
      (pss_cons (ps_if (PW.pt (pw_or (pt_not (pt_u (K := K) (pe_callB (call_isP (K := K) (e := e) List.mem_cons_self hz (hot_fields hot)) (by rfl) T.n_isinstance (by decide +kernel) (pa_cons (pv 0) (pa_cons (pe_bltn (v := .ty "ValueError") (by rfl) T.n_ValueError (by decide +kernel) rfl) pa_nil))))) (pw_or1 (pt_cmpR (op_une (K := K) hu) (pe_bm PySem.F.plainAttrs_list PySem.F.slot_list_count PySem.F.type_list_count (mt_cnt (K := K)) (pv 1) (pa_cons pe_bl pa_nil)) pe_int (nomark _)))))
      (pss_one (ps_ret pe_str)) pss_nil)
      (pss_one (ps_ret (pe_ix (ix_u (K := K) hu) (pe_lst (pa_cons pe_str (pa_cons pe_str (pa_cons pe_str (pa_cons pe_str (pa_cons pe_str (pa_cons pe_str (pa_cons pe_str (pa_cons pe_str (pa_cons pe_str pa_nil)))))))))) (pe_bm PySem.F.plainAttrs_list PySem.F.slot_list_index PySem.F.type_list_index (mt_uindex (K := K)) (pv 1) (pa_cons pe_bl pa_nil)) (fun _ _ => rfl))))))))), ?_⟩
    clear nd
    obtain ⟨rfl, rfl, rfl, q⟩ := h
    walk_at "vs"
    refine v_newL (line9 (by show 0 ≤ 10000; decide)) fun fo H1 nfo c1 hfo => ?_
    walk_at "vs"
    refine v_isE T.x_NoCell.cc (fun _ z => z) T.kit_NoCell__NoProgram ?_
    walk_at "vs"
    refine v_isE T.x_NoCell.cc (fun _ z => z) T.kit_NoCell__NoRow ?_
    walk_at "vs"
    refine v_isE T.x_NoCell.cc (fun _ z => z) T.kit_NoCell__TooLong ?_
    walk_at "vs"
    refine v_isE T.x_NoCell.cc (fun _ z => z) T.kit_NoCell__NoWorld ?_
    walk_at "vs"
    refine v_newT (line9 (by show 4 ≤ 10000; decide)) fun t2 H2 nt2 c2 ht2 => ?_
    refine v_itH_t (SqT.of ht2) ?_
    refine v_for_tup (xs := [.bl false, .bl false, .bl false, .bl false]) (fun i σ H' => ∃ (v2 : Option V), σ = [some (.ref e.1), some (.ref fo), v2] ∧ Chg [fo] H2 H' ∧ H' fo = some (.lst (List.replicate i (.bl false))))
      ⟨_, rfl, .refl, c2.at hfo⟩ (fun i σ H' _ ⟨_, _, c, _⟩ => SqT.of (c.tup ht2)) ?_ ?_
    · rintro i x σ H3 hi ⟨v2, rfl, c3, hf3⟩
      obtain rfl : x = .bl false := by
        have := List.mem_of_getElem? hi
        simpa using this
      have hil : i < 4 := (List.getElem?_eq_some_iff.mp hi).1
      walk_at "vs"
      refine v_bml (SqL.of hf3) ?_
      walk_at "vs"
      refine v_append hf3 (by rw [List.length_replicate]; exact line9' (by omega)) fun H4 c4 hf4 => ?_
      refine ⟨_, rfl, c3.trans c4, ?_⟩
      rw [hf4, List.replicate_succ']
    rintro σ H3 ⟨v2, rfl, c3, hf3⟩
    walk_at "vs"
    refine v_isE T.x_NoCell.cc (fun _ z => z) T.kit_NoCell__NoText ?_
    walk_at "vs"
    refine v_isE T.x_NoCell.cc (fun _ z => z) T.kit_NoCell__NoStep ?_
    walk_at "vs"
    refine v_isE T.x_NoCell.cc (fun _ z => z) T.kit_NoCell__NoCell ?_
    walk_at "vs"
    refine v_isE T.x_NoCell.cc (fun _ z => z) T.kit_NoCell__NoDoor ?_
    walk_at "vs"
    refine v_newT (line9 (by show 4 ≤ 10000; decide)) fun t4 H4 nt4 c4 ht4 => ?_
    refine v_itH_t (SqT.of ht4) ?_
    refine v_for_tup (xs := [.bl false, .bl false, .bl true, .bl false]) (fun i σ H' => ∃ (v2 : Option V), σ = [some (.ref e.1), some (.ref fo), v2] ∧ Chg [fo] H4 H' ∧ H' fo = some (.lst ([.bl false, .bl false, .bl false, .bl false] ++ ([V.bl false, .bl false, .bl true, .bl false].take i))))
      ⟨_, rfl, .refl, c4.at hf3⟩ (fun i σ H' _ ⟨_, _, c, _⟩ => SqT.of (c.tup ht4)) ?_ ?_
    · rintro i x σ H5 hi ⟨v2, rfl, c5, hf5⟩
      have hil : i < 4 := (List.getElem?_eq_some_iff.mp hi).1
      walk_at "vs"
      refine v_bml (SqL.of hf5) ?_
      walk_at "vs"
      refine v_append hf5 (by rw [List.length_append, List.length_take]; exact line9' (by simp only [List.length_cons, List.length_nil]; omega)) fun H6 c6 hf6 => ?_
      refine ⟨_, rfl, c5.trans c6, ?_⟩
      rw [hf6, List.append_assoc, take_snoc hi]
    rintro σ H5 ⟨v2, rfl, c5, hf5⟩
    replace hf5 : H5 fo = some (.lst [.bl false, .bl false, .bl false, .bl false, .bl false, .bl false, .bl true, .bl false]) := hf5
    walk_at "vs"
    refine v_bml (SqL.of hf5) ?_
    walk_at "vs"
    refine v_isE T.x_NoCell.cc (fun _ z => z) T.kit_NoCell__NoWord ?_
    walk_at "vs"
    refine v_append hf5 (line9' (by show 8 ≤ 10000; decide)) fun H6 c6 hf6 => ?_
    replace hf6 : H6 fo = some (.lst [.bl false, .bl false, .bl false, .bl false, .bl false, .bl false, .bl true, .bl false, .bl false]) := hf6
    walk_at "vs"
    refine v_isE T.x_NoCell.cc (fun _ z => z) T.kit_NoCell_T_ValueError ?_
    walk_at "vs"
    refine v_bml (SqL.of hf6) ?_
    walk_at "vs"
    refine v_cnt (SqL.of hf6) rfl (by decide) ?_
    walk_at "vs"
    refine v_iteN (fun z => absurd (by decide) z) (fun _ => ?_)
    walk_at "vs"
    refine v_newL (line9 (by show 9 ≤ 10000; decide)) fun g7 H7 ng7 c7 hg7 => ?_
    walk_at "vs"
    refine v_bml (SqL.of (c7.at hf6)) ?_
    walk_at "vs"
    refine v_index 6 (SqL.of (c7.at hf6)) rfl (by decide) rfl (by decide) (fun m z' hm hz => ?_) ?_
    · have : m = 0 ∨ m = 1 ∨ m = 2 ∨ m = 3 ∨ m = 4 ∨ m = 5 := by omega
      rcases this with rfl | rfl | rfl | rfl | rfl | rfl <;> (cases hz; rfl)
    refine v_ix_l (v := .str "cell") (SqL.of hg7) rfl ?_
    refine q H7 ?_
    have nfo0 : H fo = none := nfo
    exact ((((c1.trans c2).trans' c3 (by simp [nfo0])).trans c4).trans' c5 (by simp [nfo0])).trans' c6 (by simp [nfo0]) |>.trans c7
abbrev s__law_cells : Stmt := topS 27
theorem sc__law_cells : FnScope ["_law_program_here", "_law_found", "_law_name", "_law_number", "_law_things", "_law_title", "_law_params", "_law_owns", "_law_rows_here", "_law_depth"] ["_law_program_here"] (defScope s__law_cells) := ⟨rfl, rfl, rfl, by decide +kernel, rfl, by decide +kernel, by decide +kernel⟩
theorem ok__law_cells (T : Txt K mg) (D : DefAt K mg "_law_cells" s__law_cells) : Own P w K mg base "_law_cells" 1 ["_law_program_here"] (sp_lcells) := by
  refine own_of D (fun _ _ _ _ _ _ us hl => match us, hl with | [_], _ => rfl) (fnW_of (N := ["_law_program_here", "_law_found", "_law_name", "_law_number", "_law_things", "_law_title", "_law_params", "_law_owns", "_law_rows_here", "_law_depth"]) sc__law_cells (fun vs H Q E h => ?_) (fun f cdv A outer s H vs Q E hr h => ?_))
  · obtain ⟨v, p, rfl, _⟩ := h; rfl
  · have nd := sc__law_cells.nd
    have hu := L2H.roomH_of hr
    refine ⟨_, (pss_cons (ps_set (i := 1) nd rfl (by first | exact Or.inl rfl | exact Or.inr rfl) pe_dnewK)
      (pss_cons (ps_for (passes_of rfl) rfl (pi_u (K := K) (pe_ix (ix_u (K := K) hu) (pv 0) pe_int (fun _ _ => rfl))) (pg_tupU (K := K) (n := 2) rfl (pgs_cons (pg_name (i := 2) nd rfl (by first | exact Or.inl rfl | exact Or.inr rfl)) (pgs_cons (pg_name (i := 3) nd rfl (by first | exact Or.inl rfl | exact Or.inr rfl)) pgs_nil)))
      (pss_one (ps_asg (pe_tup (pa_cons pe_str (pa_cons (pv 2) pa_nil))) (pg_sub (pv 1) (pv 2) (set_u hu)))))
      (pss_cons (ps_for (passes_of rfl) rfl (pi_u (K := K) (pe_ix (ix_u (K := K) hu) (pv 0) pe_int (fun _ _ => rfl))) (pg_tupU (K := K) (n := 2) rfl (pgs_cons (pg_name (i := 2) nd rfl (by first | exact Or.inl rfl | exact Or.inr rfl)) (pgs_cons (pg_name (i := 4) nd rfl (by first | exact Or.inl rfl | exact Or.inr rfl)) pgs_nil)))
      (pss_one (ps_asg (pe_tup (pa_cons pe_str (pa_cons (pv 2) pa_nil))) (pg_sub (pv 1) (pv 2) (set_u hu)))))
      (pss_cons (ps_for (passes_of rfl) rfl (pi_u (K := K) (pe_ix (ix_u (K := K) hu) (pv 0) pe_int (fun _ _ => rfl))) (pg_tupU (K := K) (n := 4) rfl (pgs_cons (pg_name (i := 5) nd rfl (by first | exact Or.inl rfl | exact Or.inr rfl)) (pgs_cons (pg_name (i := 6) nd rfl (by first | exact Or.inl rfl | exact Or.inr rfl)) (pgs_cons (pg_name (i := 7) nd rfl (by first | exact Or.inl rfl | exact Or.inr rfl)) (pgs_cons (pg_name (i := 8) nd rfl (by first | exact Or.inl rfl | exact Or.inr rfl)) pgs_nil)))))
      (pss_one (ps_for (passes_of rfl) rfl (pi_u (K := K) (pe_op (op_uadd (K := K)) (pv 6) (pv 7))) (pg_name (i := 2) nd rfl (by first | exact Or.inl rfl | exact Or.inr rfl))
      (pss_one (ps_for (passes_of rfl) rfl (pi_range2 rfl T.n_range (pa_cons pe_int (pa_cons pe_int pa_nil))) (pg_name (i := 9) nd rfl (by first | exact Or.inl rfl | exact Or.inr rfl))
      (pss_one (ps_asg (pe_tup (pa_cons pe_str (pa_cons (pv 9) (pa_cons (pv 2) pa_nil)))) (pg_sub (pv 1) (pe_op (op_uadd (K := K)) (pe_op (op_uadd (K := K)) (pv 2) pe_str) (pe_callTy call_ustrX (by rfl) T.n_str (by decide +kernel) (pa_cons (pv 9) pa_nil))) (set_u hu)))))))))
      (pss_one (ps_ret (pv 1))))))), ?_⟩
    clear nd
    obtain ⟨v, p, rfl, hr, hp, q⟩ := h
    obtain ⟨a, v1, v2, v3, v4, rfl, ha, r1, r2, r3, r4⟩ := Pg.parts hr
    obtain ⟨b1, x1, rfl, hb1, h1⟩ := r1.tupI
    obtain ⟨b2, x2, rfl, hb2, h2⟩ := r2.tupI
    obtain ⟨b3, x3, rfl, hb3, h3⟩ := r3.tupI
    have l1 := h1.length
    have l2 := h2.length
    have l3 := h3.length
    rw [List.length_map] at l1 l2 l3
    have hlb := hp.lb; have hll := hp.ll; have hlf := hp.lf
    let B : List (Str × Cell) := p.bx.map fun b => (b.1, [.inr "box", .inr b.1])
    let L : List (Str × Cell) := p.ls.map fun l => (l.1, [.inr "list", .inr l.1])
    let F : Fn → List (Str × Cell) := fun f => (f.2.1 ++ f.2.2.1).flatMap fun n => (List.range 7).map (ownC n)
    have hBl : B.length ≤ 3 := by show (p.bx.map _).length ≤ 3; rw [List.length_map]; omega
    have hLl : L.length ≤ 3 := by show (p.ls.map _).length ≤ 3; rw [List.length_map]; omega
    have namesL : ∀ ns : List Str, (ns.flatMap fun n => (List.range 7).map (ownC n)).length = 7 * ns.length := fun ns => by
      induction ns with
      | nil => rfl
      | cons n ns ih => rw [List.flatMap_cons, List.length_append, ih, List.length_map, List.length_range, List.length_cons]; omega
    have hFl : ∀ fs : List Fn, (∀ f ∈ fs, f.2.1.length ≤ 3 ∧ f.2.2.1.length ≤ 3) → (fs.flatMap F).length ≤ 42 * fs.length := fun fs h => by
      induction fs with
      | nil => exact Nat.zero_le _
      | cons f fs ih =>
        have h1 := h f List.mem_cons_self
        have h2 := ih fun g hg => h g (List.mem_cons_of_mem _ hg)
        have h3 := namesL (f.2.1 ++ f.2.2.1)
        rw [List.length_append] at h3
        rw [List.flatMap_cons, List.length_append, List.length_cons]
        show ((f.2.1 ++ f.2.2.1).flatMap _).length + _ ≤ _
        omega
    walk_at "vs"
    refine v_dnewK fun d H1 nd c1 hd => ?_
    walk_at "vs"
    refine v_ix_t (SqT.of (c1.tup ha)) rfl ?_
    walk_at "vs"
    refine v_it_t (SqT.of (c1.tup hb1)) ?_
    refine v_for_tup (xs := x1) (fun i σ H' => ∃ (w2 w3 w4 w5 w6 w7 w8 w9 : Option V), σ = [some (.ref a), some (.ref d), w2, w3, w4, w5, w6, w7, w8, w9] ∧ Chg [d] H1 H' ∧ DueAt H' d (B.take i))
      ⟨_, _, _, _, _, _, _, _, rfl, .refl, .nil hd⟩ (fun i σ H' _ ⟨_, _, _, _, _, _, _, _, _, c, _⟩ => SqT.of (c.tup (c1.tup hb1))) ?_ ?_
    · rintro i x σ H2 hi ⟨w2, w3, w4, w5, w6, w7, w8, w9, rfl, c2, hD⟩
      obtain ⟨y, hy, rx⟩ := ((h1.on c1).on c2).get hi
      obtain ⟨b, hbi, rfl⟩ := map_get hy
      have hBi : B[i]? = some (b.1, [.inr "box", .inr b.1]) := by show (p.bx.map _)[i]? = _; rw [List.getElem?_map, hbi]; rfl
      obtain ⟨t2, ys, rfl, ht2, hys⟩ := Rp.tupI rx
      obtain ⟨y1, rfl, hy1, _⟩ := hys.strH
      obtain ⟨y2, rfl, hy2⟩ := hy1.intH
      cases hy2.nilH
      refine v_gtup (SqT.of ht2) rfl ?_
      walk_at "vs"
      refine v_newT (line9 (by show 2 ≤ 10000; decide)) fun t3 H3 nt3 c3 ht3 => ?_
      walk_at "vs"
      have hd3 : DueAt H3 d (B.take i) := hD.on c3 (by simp)
      refine v_due (c := [.inr "box", .inr b.1]) hd3 ht3 (by rw [List.length_take]; omega) fun H4 c4 hD4 => ?_
      exact ⟨_, _, _, _, _, _, _, _, rfl, c2.trans (c3.of0.trans c4), by rw [take_snoc hBi]; exact hD4⟩
    rintro σ H2 ⟨w2, w3, w4, w5, w6, w7, w8, w9, rfl, c2, hD⟩
    rw [show x1.length = B.length by show _ = (p.bx.map _).length; rw [List.length_map]; exact l1, List.take_length] at hD
    walk_at "vs"
    have c12 : Chg [] H H2 := c1.trans' c2 (by simp [nd])
    refine v_ix_t (SqT.of (c12.tup ha)) rfl ?_
    walk_at "vs"
    refine v_it_t (SqT.of (c12.tup hb2)) ?_
    refine v_for_tup (xs := x2) (fun i σ H' => ∃ (w2 w3 w4 w5 w6 w7 w8 w9 : Option V), σ = [some (.ref a), some (.ref d), w2, w3, w4, w5, w6, w7, w8, w9] ∧ Chg [d] H2 H' ∧ DueAt H' d (B ++ L.take i))
      ⟨_, _, _, _, _, _, _, _, rfl, .refl, by simpa using hD⟩ (fun i σ H' _ ⟨_, _, _, _, _, _, _, _, _, c, _⟩ => SqT.of (c.tup (c12.tup hb2))) ?_ ?_
    · rintro i x σ H3 hi ⟨w2, w3, w4, w5, w6, w7, w8, w9, rfl, c3, hD⟩
      obtain ⟨y, hy, rx⟩ := ((h2.on c12).on c3).get hi
      obtain ⟨l, hli, rfl⟩ := map_get hy
      have hLi : L[i]? = some (l.1, [.inr "list", .inr l.1]) := by show (p.ls.map _)[i]? = _; rw [List.getElem?_map, hli]; rfl
      obtain ⟨t2, ys, rfl, ht2, hys⟩ := Rp.tupI rx
      obtain ⟨y1, rfl, hy1, _⟩ := hys.strH
      obtain ⟨y2, y3, rfl, hy2, hy3⟩ := hy1.consH
      cases hy3.nilH
      refine v_gtup (SqT.of ht2) rfl ?_
      walk_at "vs"
      refine v_newT (line9 (by show 2 ≤ 10000; decide)) fun t3 H4 nt3 c4 ht3 => ?_
      walk_at "vs"
      have hd4 := hD.on c4 (by simp)
      refine v_due (c := [.inr "list", .inr l.1]) hd4 ht3 (by rw [List.length_append, List.length_take]; omega) fun H5 c5 hD5 => ?_
      exact ⟨_, _, _, _, _, _, _, _, rfl, c3.trans (c4.of0.trans c5), by rw [take_snoc hLi, ← List.append_assoc]; exact hD5⟩
    rintro σ H3 ⟨w2, w3, w4, w5, w6, w7, w8, w9, rfl, c3, hD⟩
    rw [show x2.length = L.length by show _ = (p.ls.map _).length; rw [List.length_map]; exact l2, List.take_length] at hD
    walk_at "vs"
    have c13 : Chg [] H H3 := c12.trans' c3 (by simp [nd])
    refine v_ix_t (SqT.of (c13.tup ha)) rfl ?_
    walk_at "vs"
    refine v_it_t (SqT.of (c13.tup hb3)) ?_
    refine v_for_tup (xs := x3) (fun i σ H' => ∃ (w2 w3 w4 w5 w6 w7 w8 w9 : Option V), σ = [some (.ref a), some (.ref d), w2, w3, w4, w5, w6, w7, w8, w9] ∧ Chg [d] H3 H' ∧ DueAt H' d (B ++ L ++ (p.fs.take i).flatMap F))
      ⟨_, _, _, _, _, _, _, _, rfl, .refl, by simpa using hD⟩ (fun i σ H' _ ⟨_, _, _, _, _, _, _, _, _, c, _⟩ => SqT.of (c.tup (c13.tup hb3))) ?_ ?_
    · rintro i x σ H4 hi ⟨w2, w3, w4, w5, w6, w7, w8, w9, rfl, c4, hD⟩
      obtain ⟨y, hy, rx⟩ := ((h3.on c13).on c4).get hi
      obtain ⟨g, hgi, rfl⟩ := map_get hy
      have htake := take_snoc hgi
      obtain ⟨g1, g2, g3, g4, g5⟩ := hp.nf g (List.mem_of_getElem? hgi)
      have hl4 := hFl (p.fs.take i) fun f hf => ⟨(hp.nf f (List.mem_of_mem_take hf)).2.1, (hp.nf f (List.mem_of_mem_take hf)).2.2.1⟩
      rw [List.length_take] at hl4
      obtain ⟨t, u2, u3, u4, rfl, ht, okn, q2, q3, q4⟩ := fn_parts rx
      obtain ⟨d2, y2, rfl, hd2, k2⟩ := q2.tupI
      obtain ⟨d3, y3, rfl, hd3, k3⟩ := q3.tupI
      obtain ⟨rfl, _⟩ := strs_of_rp k2
      obtain ⟨rfl, _⟩ := strs_of_rp k3
      refine v_gtup (SqT.of ht) rfl ?_
      walk_at "vs"
      refine v_add_tt hd2 hd3 (line9 (by simp only [List.length_map]; omega)) fun t5 H5 c5 ht5 => ?_
      rw [← List.map_append] at ht5
      refine v_it_t (SqT.of ht5) ?_
      have hD5 := hD.on c5 (by simp)
      refine v_for_tup (xs := (g.2.1 ++ g.2.2.1).map V.str) (fun j σ H' => ∃ (w2 w9 : Option V), σ = [some (.ref a), some (.ref d), w2, w3, w4, some (.str g.1), some (.ref d2), some (.ref d3), some u4, w9] ∧ Chg [d] H5 H' ∧ DueAt H' d (B ++ L ++ (p.fs.take i).flatMap F ++ ((g.2.1 ++ g.2.2.1).take j).flatMap fun n => (List.range 7).map (ownC n)))
        ⟨_, _, rfl, .refl, by simpa using hD5⟩ (fun i σ H' _ ⟨_, _, _, c, _⟩ => SqT.of (c.tup ht5)) ?_ ?_
      · rintro j z σ H6 hj ⟨w2, w9, rfl, c6, hD6⟩
        obtain ⟨n, hnj, rfl⟩ := map_get hj
        have htj := take_snoc hnj
        have hnl : n.length ≤ 6 := by
          refine (isNm_len ?_).2
          rcases List.mem_append.mp (List.mem_of_getElem? hnj) with m | m
          · exact g4 n m
          · exact g5 n m
        have hjl : j < (g.2.1 ++ g.2.2.1).length := (List.getElem?_eq_some_iff.mp hnj).1
        have hl6 := namesL ((g.2.1 ++ g.2.2.1).take j)
        rw [List.length_append] at hjl
        rw [List.length_take, List.length_append] at hl6
        walk_at "vs"
        refine v_rng2' (by omega) (by omega) (by omega) (by omega) ?_
        refine v_for_range (fun k σ H' => ∃ (w9 : Option V), σ = [some (.ref a), some (.ref d), some (.str n), w3, w4, some (.str g.1), some (.ref d2), some (.ref d3), some u4, w9] ∧ Chg [d] H6 H' ∧ DueAt H' d (B ++ L ++ (p.fs.take i).flatMap F ++ (((g.2.1 ++ g.2.2.1).take j).flatMap fun n => (List.range 7).map (ownC n)) ++ (List.range k).map (ownC n)))
          ⟨_, rfl, .refl, by simpa using hD6⟩ ?_ ?_
        · rintro k σ H7 hk ⟨w9, rfl, c7, hD7⟩
          have hk7 : k < 7 := by have : ((8 : Int) - 1).toNat = 7 := rfl; omega
          have hkl := iS_len (i := (1 : Int) + k) (by omega) (by omega)
          walk_at "vs"
          refine v_newT (line9 (by show 3 ≤ 10000; decide)) fun t8 H8 nt8 c8 ht8 => ?_
          walk_at "vs"
          refine v_add_ss (line9 (by show n.length + 1 ≤ 10000; omega)) ?_
          walk_at "vs"
          refine v_str_i (log2_small (by omega) (by omega)) ?_
          refine v_add_ss (line9 (by rw [sla]; show n.length + 1 + (iS _).length ≤ 10000; omega)) ?_
          have hD8 := hD7.on c8 (by simp)
          refine v_due (c := [.inr "own", .inl (1 + k), .inr n]) hD8 ht8 (by
            have hr7 := List.length_range (n := k)
            simp only [List.length_append, List.length_map, List.length_range, hl6]; omega) fun H9 c9 hD9 => ?_
          refine ⟨_, rfl, c7.trans (c8.of0.trans c9), ?_⟩
          rw [show List.map (ownC n) (List.range (k + 1)) = List.map (ownC n) (List.range k) ++ List.map (ownC n) [k] by rw [List.range_succ, List.map_append], ← List.append_assoc]
          have e1 : ((1 : Int) + k) = (k : Int) + 1 := by omega
          have e2 : ([((n ++ Str.ofString "@" ++ toString ((1 : Int) + k) : Str), ([.inr "own", .inl (1 + k), .inr n] : Cell))] : List (Str × Cell)) = List.map (ownC n) [k] := by
            rw [e1]; rfl
          rw [← e2]; exact hD9
        · rintro σ H7 ⟨w9, rfl, c7, hD7⟩
          refine ⟨_, _, rfl, c6.trans c7, ?_⟩
          rw [htj, List.flatMap_append, List.flatMap_cons, List.flatMap_nil, List.append_nil, ← List.append_assoc]
          exact hD7
      · rintro σ H6 ⟨w2, w9, rfl, c6, hD6⟩
        rw [List.length_map, List.take_length] at hD6
        refine ⟨_, _, _, _, _, _, _, _, rfl, c4.trans (c5.of0.trans c6), ?_⟩
        rw [htake, List.flatMap_append, List.flatMap_cons, List.flatMap_nil, List.append_nil, ← List.append_assoc]
        exact hD6
    rintro σ H4 ⟨w2, w3, w4, w5, w6, w7, w8, w9, rfl, c4, hD⟩
    rw [l3, List.take_length] at hD
    walk_at "vs"
    exact q d H4 nd (c13.trans' c4 (by simp [nd])) hD
abbrev s__law_near : Stmt := topS 28
theorem sc__law_near : FnScope ["_law_program_here", "_law_words", "_law_state_here", "_law_word", "_law_name", "_law_titles", "_law_one", "_law_some"] ["_law_program_here", "_law_words", "_law_state_here"] (defScope s__law_near) := ⟨rfl, rfl, rfl, by decide +kernel, rfl, by decide +kernel, by decide +kernel⟩
theorem ok__law_near (T : Txt K mg) (D : DefAt K mg "_law_near" s__law_near) (O__law_next : Own P w K mg base "_law_next" 1 ["_law_state_here", "_law_size"] (sp_next)) : Own P w K mg base "_law_near" 2 ["_law_program_here", "_law_words", "_law_state_here"] (sp_near) := by
  refine own_of D (fun _ _ _ _ _ _ us hl => match us, hl with | [_, _, _], _ => rfl) (fnW_of (N := ["_law_program_here", "_law_words", "_law_state_here", "_law_word", "_law_name", "_law_titles", "_law_one", "_law_some"]) sc__law_near (fun vs H Q E h => ?_) (fun f cdv A outer s H vs Q E hr h => ?_))
  · obtain ⟨v, p, b, st, ws, rfl, _⟩ := h; rfl
  · have nd := sc__law_near.nd
    have hu := L2H.roomH_of hr
    have TK : L2N.Takes (cxOf (L2N.CX P w) P w K mg base ["_law_program_here", "_law_words", "_law_state_here", "_law_word", "_law_name", "_law_titles", "_law_one", "_law_some"] "_law_near" (defScope s__law_near) f cdv A outer s H E) (fun cls d _ H => E cls d H) := L2N.takes_of rfl rfl rfl rfl
    refine ⟨_, (pss_cons (ps_set (i := 3) nd rfl (by first | exact Or.inl rfl | exact Or.inr rfl) (pe_ix (ix_u (K := K) hu) (pe_op (op_uadd (K := K)) (pv 1) (pe_lst (pa_cons pe_str pa_nil))) (pe_own O__law_next (by decide) hr rfl (fun σ => L2N.passAt TK σ) (pa_cons (pv 2) (pa_cons (pe_op (op_uadd (K := K)) (pe_callB (call_ulen (K := K)) (by rfl) T.n_len (by decide +kernel) (pa_cons (pv 1) pa_nil)) pe_int) pa_nil))) (fun _ _ => rfl)))
      (pss_cons (ps_set (i := 4) nd rfl (by first | exact Or.inl rfl | exact Or.inr rfl) (pe_ix (ix_u (K := K) hu) (pe_bm PySem.F.plainAttrs_str PySem.F.slot_str_split PySem.F.type_str_split mt_usplit (pv 3) (pa_cons pe_str pa_nil)) pe_int (fun _ _ => rfl)))
      (pss_cons (ps_set (i := 5) nd rfl (by first | exact Or.inl rfl | exact Or.inr rfl) (pe_op (op_uadd (K := K)) (pe_lc (own := [("_law_one", 6)]) rfl nd (pi_u (K := K) (pe_ix (ix_u (K := K) hu) (pv 0) pe_int (fun _ _ => rfl))) (blkOk_by (N := ["_law_program_here", "_law_words", "_law_state_here", "_law_word", "_law_name", "_law_titles", "_law_one", "_law_some"]) (sc := defScope s__law_near) (by decide +kernel)) (fun _ _ _ _ _ => (pg_name (i := 6) nd rfl (by first | exact Or.inl rfl | exact Or.inr rfl))) (fun _ _ _ _ _ => pts_nil) (fun _ _ _ _ _ => (pe_ix (ix_u (K := K) hu) (pv 6) pe_int (fun _ _ => rfl)))) (pe_lst (pa_cons pe_str pa_nil))))
      (pss_cons (ps_set (i := 7) nd rfl (by first | exact Or.inl rfl | exact Or.inr rfl) (pe_lst (pa_cons (pe_op (op_uadd (K := K)) (pv 3) pe_str) (pa_cons (pe_op (op_uadd (K := K)) (pv 3) pe_str) (pa_cons (pe_slice (sl_uS (K := K)) (pv 3) po_none (po_some (pe_un un_neg pe_int))) (pa_cons (pe_bm0 PySem.F.plainAttrs_str PySem.F.slot_str_upper PySem.F.type_str_upper mt_uupper (pv 3)) (pa_cons (pe_op (op_uadd (K := K)) (pv 4) pe_str) (pa_cons (pe_op (op_uadd (K := K)) (pv 4) pe_str) (pa_cons (pe_op (op_uadd (K := K)) (pv 4) pe_str) (pa_cons (pe_op (op_uadd (K := K)) (pv 4) pe_str) (pa_cons (pv 4) pa_nil)))))))))))
      (pss_cons (ps_set (i := 7) nd rfl (by first | exact Or.inl rfl | exact Or.inr rfl) (pe_op (op_uadd (K := K)) (pv 7) (pe_lst (pa_cons (pe_op (op_uadd (K := K)) (pv 4) pe_str) (pa_cons (pe_op (op_uadd (K := K)) (pv 4) pe_str) (pa_cons pe_str (pa_cons pe_str (pa_cons pe_str (pa_cons (pe_ix (ix_u (K := K) hu) (pv 5) pe_int (fun _ _ => rfl)) (pa_cons (pe_op (op_uadd (K := K)) (pe_ix (ix_u (K := K) hu) (pv 5) pe_int (fun _ _ => rfl)) pe_str) (pa_cons (pe_op (op_uadd (K := K)) (pv 3) pe_str) (pa_cons (pe_op (op_uadd (K := K)) pe_str (pv 3)) pa_nil))))))))))))
      (pss_one (ps_ret (pe_ix (ix_u (K := K) hu) (pv 7) (pe_own O__law_next (by decide) hr rfl (fun σ => L2N.passAt TK σ) (pa_cons (pv 2) (pa_cons pe_int pa_nil))) (fun _ _ => rfl))))))))), ?_⟩
    clear nd
    obtain ⟨v, p, b, st, ws, rfl, hr, hp, hb, hwl, hws, hst, q⟩ := h
    obtain ⟨a, v1, v2, v3, v4, rfl, ha, r1, r2, r3, r4⟩ := Pg.parts hr
    obtain ⟨b3, x3, rfl, hb3, h3⟩ := r3.tupI
    have l3 := h3.length
    rw [List.length_map] at l3
    have hlf := hp.lf
    have bst : b ≠ st := hst.ne_strs hb
    walk_at "vs"
    refine v_newL (line9 (by show 1 ≤ 10000; decide)) fun z1 H1 nz1 c1 hz1 => ?_
    walk_at "vs"
    refine v_add_strs (xs := ws) (ys := [Str.ofString "zz"]) (c1.at hb) hz1 (by show ws.length + 1 ≤ 10000; omega) fun z2 H2 nz2 c2 hz2 => ?_
    have c12 := c1.trans c2
    walk_at "vs"
    refine v_len_l (SqL.of (c12.at hb)) ?_
    rw [List.length_map]
    walk_at "vs"
    refine ⟨st, _, rfl, hst.on0 c12, by omega, fun i H3 i0 i1 c3 hst3 => ?_⟩
    have nz2st : z2 ≠ st := hst3.ne_strs (zs := ws ++ [Str.ofString "zz"]) (c3.keep hz2 (by
      rw [List.mem_singleton]; rintro rfl
      obtain ⟨z, e, _⟩ := hst.on0 c1
      rw [nz2] at e; cases e))
    have hz23 := c3.keep hz2 (by simpa using nz2st)
    refine v_ix_lany (SqL.of hz23) i0 (by rw [List.length_map, List.length_append, List.length_singleton]; push_cast; omega) fun u hu => ?_
    obtain ⟨w, hw, rfl⟩ := map_get hu
    have hwlen : w.length ≤ 20 := by
      rcases List.mem_append.mp (List.mem_of_getElem? hw) with m | m
      · exact hws w m
      · rw [List.mem_singleton] at m; subst m; decide
    have c13 : Chg [st] H H3 := c12.of0.trans c3
    walk_at "vs"
    refine v_split_s rfl (line9 (by omega)) fun p4 H4 np4 c4 hp4 => ?_
    obtain ⟨hd, rs, hs, hhd⟩ := split_head w
    rw [show (Txt.split w (Str.ofString "@")) = hd :: rs from hs] at hp4
    refine v_ix_l (SqL.of hp4) (atI_0 _ _) ?_
    walk_at "vs"
    have c14 := c13.trans c4.of0
    refine v_ix_t (SqT.of (c14.tup ha)) rfl ?_
    walk_at "vs"
    refine v_it_t (SqT.of (c14.tup hb3)) ?_
    refine v_lc_tup (xs := x3) [] (fun i acc H' => acc = ((p.fs.take i).map (·.1)).map V.str) (by simp) (fun H' c => SqT.of (c.tup (c14.tup hb3))) (fun H' c => rfl) ?_ ?_
    · rintro D i x acc H5 hi nD dS c5 hDl rfl
      obtain ⟨y, hy, rx⟩ := ((h3.on c14).on c5).get hi
      obtain ⟨g, hgi, rfl⟩ := map_get hy
      have htake := take_snoc hgi
      obtain ⟨t, w2, w3, w4, rfl, ht, okn, q2, q3, q4⟩ := fn_parts rx
      walk_at "vs"
      refine ⟨rfl, ?_⟩
      walk_at "vs"
      refine v_ix_t (SqT.of ht) (atI_0 _ _) ?_
      refine v_lcA c5 hDl nD dS .refl (line9' (by simp only [List.length_map, List.length_take]; omega)) fun H6 c6 => ?_
      rw [htake, List.map_append, List.map_append]; rfl
    rintro D acc H5 c5 nD hDl rfl
    rw [l3, List.take_length] at hDl
    walk_at "vs"
    refine v_newL (line9 (by show 1 ≤ 10000; decide)) fun z6 H6 nz6 c6 hz6 => ?_
    refine v_add_strs (xs := p.fs.map (·.1)) (ys := [Str.ofString "f"]) (c6.at hDl) hz6 (by rw [List.length_map, List.length_singleton]; omega) fun z7 H7 nz7 c7 hz7 => ?_
    have c17 : Chg [st] H H7 := c14.trans (((c5.trans c6).trans c7).of0)
    obtain ⟨ti, tr, htt, htl⟩ : ∃ ti tr, p.fs.map (·.1) ++ [Str.ofString "f"] = ti :: tr ∧ ti.length ≤ 6 := by
      cases hf : p.fs with
      | nil => exact ⟨_, _, rfl, by decide⟩
      | cons f fs => exact ⟨f.1, _, rfl, (isNm_len (hp.nf f (by rw [hf]; exact List.mem_cons_self)).1).2⟩
    rw [htt] at hz7
    have s7 : StAt H7 st := (hst3.on0 c4).on0 ((c5.trans c6).trans c7)
    have up := PyProof.Rows.len_upper w
    have ct := fun lo hi => cutS_len w lo hi
    walk_at "vs"
    refine v_add_ss (line9 (by show w.length + 2 ≤ 10000; omega)) ?_
    walk_at "vs"
    refine v_add_ss (line9 (by show w.length + 1 ≤ 10000; omega)) ?_
    walk_at "vs"
    refine v_slS (line9 (by omega)) ?_
    walk_at "vs"
    refine v_upper_s (by omega) ?_
    walk_at "vs"
    refine v_add_ss (line9 (by show hd.length + 2 ≤ 10000; omega)) ?_
    walk_at "vs"
    refine v_add_ss (line9 (by show hd.length + 2 ≤ 10000; omega)) ?_
    walk_at "vs"
    refine v_add_ss (line9 (by show hd.length + 1 ≤ 10000; omega)) ?_
    walk_at "vs"
    refine v_add_ss (line9 (by show hd.length + 3 ≤ 10000; omega)) ?_
    walk_at "vs"
    refine v_newL (line9 (by show 9 ≤ 10000; decide)) fun z8 H8 nz8 c8 hz8 => ?_
    walk_at "vs"
    refine v_add_ss (line9 (by show hd.length + 3 ≤ 10000; omega)) ?_
    walk_at "vs"
    refine v_add_ss (line9 (by show hd.length + 2 ≤ 10000; omega)) ?_
    walk_at "vs"
    refine v_ix_l (SqL.of (c8.at hz7)) (atI_0 _ _) ?_
    walk_at "vs"
    refine v_ix_l (SqL.of (c8.at hz7)) (atI_0 _ _) ?_
    walk_at "vs"
    refine v_add_ss (line9 (by show ti.length + 2 ≤ 10000; omega)) ?_
    walk_at "vs"
    refine v_add_ss (line9 (by show w.length + 1 ≤ 10000; omega)) ?_
    walk_at "vs"
    refine v_add_ss (line9 (by show 1 + w.length ≤ 10000; omega)) ?_
    walk_at "vs"
    refine v_newL (line9 (by show 9 ≤ 10000; decide)) fun z9 H9 nz9 c9 hz9 => ?_
    refine v_add_ll (c9.at hz8) hz9 (line9 (by show 9 + 9 ≤ 10000; decide)) fun z10 H10 nz10 c10 hz10 => ?_
    have c710 := (c8.trans c9).trans c10
    walk_at "vs"
    refine ⟨st, 18, rfl, s7.on0 c710, by omega, fun j H11 j0 j1 c11 hst11 => ?_⟩
    have nz10st : z10 ≠ st := by
      rintro rfl
      obtain ⟨z, e, _⟩ := s7.on0 (c8.trans c9)
      rw [nz10] at e; cases e
    refine v_ix_lany (SqL.of (c11.keep hz10 (by simpa using nz10st))) j0 (by show j < ((18 : Nat) : Int); omega) fun u hu => ?_
    have hum := List.mem_of_getElem? hu
    have key : ∃ z : Str, u = .str z ∧ z.length ≤ 1000 := by
      simp only [List.mem_append, List.mem_cons, List.not_mem_nil, or_false, List.cons_append, List.nil_append] at hum
      have l1 : (Str.ofString "@1").length = 2 := rfl
      have l2 : (Str.ofString "1").length = 1 := rfl
      have c1 := ct none (some (-1))
      rcases hum with rfl | rfl | rfl | rfl | rfl | rfl | rfl | rfl | rfl | rfl | rfl | rfl | rfl | rfl | rfl | rfl | rfl | rfl
      all_goals first
        | exact ⟨_, rfl, by rw [sla]; show w.length + 2 ≤ 1000; omega⟩
        | exact ⟨_, rfl, by rw [sla]; show w.length + 1 ≤ 1000; omega⟩
        | exact ⟨_, rfl, by rw [sla]; show hd.length + 3 ≤ 1000; omega⟩
        | exact ⟨_, rfl, by rw [sla]; show hd.length + 2 ≤ 1000; omega⟩
        | exact ⟨_, rfl, by rw [sla]; show hd.length + 1 ≤ 1000; omega⟩
        | exact ⟨_, rfl, by rw [sla]; show ti.length + 2 ≤ 1000; omega⟩
        | exact ⟨_, rfl, by rw [sla]; show 1 + w.length ≤ 1000; omega⟩
        | exact ⟨_, rfl, by omega⟩
        | exact ⟨_, rfl, by decide⟩
    obtain ⟨z, rfl, hzl⟩ := key
    have nst0 : H st ≠ none := by
      obtain ⟨z, e, _⟩ := hst
      rw [e]; nofun
    exact q z H11 hzl ((c17.trans c710.of0).trans c11) hst11
abbrev s__law_told : Stmt := topS 29
theorem sc__law_told : FnScope ["_law_program_here", "_law_word", "_law_e"] ["_law_program_here", "_law_word"] (defScope s__law_told) := ⟨rfl, rfl, rfl, by decide +kernel, rfl, by decide +kernel, by decide +kernel⟩
theorem ok__law_told (T : Txt K mg) (D : DefAt K mg "_law_told" s__law_told) (O_cell_of : Own P w K mg base "cell_of" 2 ["program", "word"] (sp_cellof T.x_NoCell.C)) (O__law_class : OwnP P w K mg base "_law_class" 1 ["_law_e"] (sp_class T.x_NoCell.C)) : Own P w K mg base "_law_told" 3 ["_law_program_here", "_law_word"] (sp_told T.x_NoCell.C) := by
  refine own_of D (fun _ _ _ _ _ _ us hl => match us, hl with | [_, _], _ => rfl) (fnW_of (N := ["_law_program_here", "_law_word", "_law_e"]) sc__law_told (fun vs H Q E h => ?_) (fun f cdv A outer s H vs Q E hr h => ?_))
  · obtain ⟨v, p, w, rfl, _⟩ := h; rfl
  · have nd := sc__law_told.nd
    have hu := L2H.roomH_of hr
    have TK : L2N.Takes (cxOf (L2N.CX P w) P w K mg base ["_law_program_here", "_law_word", "_law_e"] "_law_told" (defScope s__law_told) f cdv A outer s H E) (fun cls d _ H => E cls d H) := L2N.takes_of rfl rfl rfl rfl
    refine ⟨_, (pss_one (ps_tryU (K := K) (i := 2) nd rfl ⟨rfl, by decide, Or.inl (T.x_RunError).g⟩ TK)), ?_⟩
    clear nd
    obtain ⟨v, p, w, rfl, rp, pp, wl, q, qE⟩ := h
    walk_at "vs"
    intro pn xe tk hpo
    refine ⟨_, (pss_one (ps_ret (pe_own O_cell_of (by decide) hr rfl (fun σ => L2N.passAt tk σ) (pa_cons (pv 0) (pa_cons (pv 1) pa_nil))))), ?_⟩
    walk_at "vs"
    refine ⟨v, p, w, rfl, rp, pp, wl, fun c t H' hc c1 ht => q c t H' hc c1 ht, fun no H1 c1 => ?_⟩
    refine ⟨true, T.exm_NoCell__RunError, fun _ a na => ?_, fun z => nomatch z⟩
    intro oe pn hz hf
    refine ⟨_, (pss_one (ps_ret (pe_ownP (q := (a, oe)) O__law_class (by decide) (markH (L2H.roomH_of hr)) (hot_of hz hf) List.mem_cons_self hz.zc rfl passN (pa_cons (pv 2) pa_nil)))), ?_⟩
    walk_at "vs"
    exact ⟨rfl, rfl, rfl, fun H2 c2 => qE no H2 (c1.trans c2)⟩
abbrev s__law_right : Stmt := topS 30
theorem sc__law_right : FnScope ["_law_program_here", "_law_word", "_law_due", "_law_found"] ["_law_program_here", "_law_word", "_law_due"] (defScope s__law_right) := ⟨rfl, rfl, rfl, by decide +kernel, rfl, by decide +kernel, by decide +kernel⟩
theorem ok__law_right (T : Txt K mg) (D : DefAt K mg "_law_right" s__law_right) (O__law_told : Own P w K mg base "_law_told" 3 ["_law_program_here", "_law_word"] (sp_told T.x_NoCell.C)) (O_cell_word : Own P w K mg base "cell_word" 1 ["cell"] (sp_cword)) : Own P w K mg base "_law_right" 4 ["_law_program_here", "_law_word", "_law_due"] (sp_lright) := by
  refine own_of D (fun _ _ _ _ _ _ us hl => match us, hl with | [_, _, _], _ => rfl) (fnW_of (N := ["_law_program_here", "_law_word", "_law_due", "_law_found"]) sc__law_right (fun vs H Q E h => ?_) (fun f cdv A outer s H vs Q E hr h => ?_))
  · obtain ⟨v, p, w, d, rfl, _⟩ := h; rfl
  · have nd := sc__law_right.nd
    have hu := L2H.roomH_of hr
    have TK : L2N.Takes (cxOf (L2N.CX P w) P w K mg base ["_law_program_here", "_law_word", "_law_due", "_law_found"] "_law_right" (defScope s__law_right) f cdv A outer s H E) (fun cls d _ H => E cls d H) := L2N.takes_of rfl rfl rfl rfl
    refine ⟨_, (pss_cons (ps_set (i := 3) nd rfl (by first | exact Or.inl rfl | exact Or.inr rfl) (pe_own O__law_told (by decide) hr rfl (fun σ => L2N.passAt TK σ) (pa_cons (pv 0) (pa_cons (pv 1) pa_nil))))
      (pss_cons (ps_if (pt_cmpR (op_unin (K := K) hu) (pv 1) (pv 2) rfl)
      (pss_one (ps_ret (pe_cmpR (op_ueq (K := K) hu) (pv 3) pe_str (nomark _)))) pss_nil)
      (pss_cons (ps_if (PW.pt (pw_or (pt_not (pt_u (K := K) (pe_callB (call_uisi (K := K)) (by rfl) T.n_isinstance (by decide +kernel) (pa_cons (pv 3) (pa_cons (pe_bltn (v := .ty "tuple") (by rfl) T.n_tuple (by decide +kernel) rfl) pa_nil))))) (pw_or (pt_cmpR (op_une (K := K) hu) (pv 3) (pe_ix (ix_u (K := K) hu) (pv 2) (pv 1) (fun _ _ => rfl)) (nomark _)) (pw_or1 (pt_u (K := K) (pe_callB (call_uisi (K := K)) (by rfl) T.n_isinstance (by decide +kernel) (pa_cons (pe_ix (ix_u (K := K) hu) (pv 3) pe_int (fun _ _ => rfl)) (pa_cons (pe_bltn (v := .ty "bool") (by rfl) T.n_bool (by decide +kernel) rfl) pa_nil))))))))
      (pss_one (ps_ret pe_bl)) pss_nil)
      (pss_one (ps_ret (pe_cmpR (op_ueq (K := K) hu) (pe_own O_cell_word (by decide) hr rfl (fun σ => L2N.passAt TK σ) (pa_cons (pv 3) pa_nil)) (pv 1) (nomark _))))))), ?_⟩
    clear nd
    obtain ⟨v, p, w, d, rfl, hr, hp, hwl, hD, q⟩ := h
    have hIn := fun c => cell_in (w := w) (c := c) hp.nb hp.nl hp.no hp.nd
    walk_at "vs"
    refine ⟨v, p, w, rfl, hr, hp, hwl, fun c t H1 hc c1 ht => ?_, fun no H1 c1 => ?_⟩
    · have hm := cell_out hc
      obtain ⟨kvs, h1, h2, h3, h4⟩ := hD.on c1 (by simp)
      have hs := h4 _ hm
      obtain ⟨u, hu⟩ := Option.isSome_iff_exists.mp hs
      obtain ⟨w', c', t', e1, e2, e3, e4⟩ := h3 _ (mem_valV hu)
      cases e1
      obtain rfl : u = .ref t' := e2
      have := (hIn c' e4).1
      rw [hc] at this
      obtain rfl : c = c' := by cases this; rfl
      have kok := cell_keys hp hm
      walk_at "vs"
      refine v_nin_d (DGet.k (k := .inr w) h1) ?_
      rw [hu]
      refine v_isb ?_
      rw [if_neg (by simp)]
      walk_at "vs"
      refine v_isi_t_tuple ht ?_
      walk_at "vs"
      refine v_ix_d (v := .ref t') (by rw [← hu]; exact DGet.k (k := .inr w) h1) ?_
      refine v_ne_Dr (rp_cell ht kok) (rp_cell e3 kok) (by rw [dep_cell]; decide) ?_
      walk_at "vs"
      obtain ⟨y1, y2, hy⟩ := cell_two hm
      refine v_ix_t (v := kV y2) (SqT.of ht) (by rw [hy]; exact atI_1 _ _ _) ?_
      walk_at "vs"
      refine v_isi_flat (by cases y2 <;> rfl) (by simp [sixT]) ?_
      rw [show isF (kV y2) "bool" = false by cases y2 <;> rfl]
      walk_at "vs"
      refine ⟨t, p, w, c, rfl, ht, hp, hm, ?_⟩
      rw [(hIn c hm).2]
      refine v_var rfl ?_
      refine v_eq_ss ?_
      rw [decide_eq_true rfl]
      exact q H1 c1
    · obtain ⟨kvs, h1, h2, h3, h4⟩ := hD.on c1 (by simp)
      have hn : valV kvs (.inr w) = none := by
        cases hv : valV kvs (.inr w) with
        | none => rfl
        | some u =>
          obtain ⟨w', c', t', e1, e2, e3, e4⟩ := h3 _ (mem_valV hv)
          cases e1
          have := (hIn c' e4).1
          rw [no] at this; cases this
      walk_at "vs"
      refine v_nin_d (DGet.k (k := .inr w) h1) ?_
      rw [hn]
      refine v_isb ?_
      rw [if_pos (by simp)]
      walk_at "vs"
      rw [decide_eq_true rfl]
      exact q H1 c1
abbrev s_law : Stmt := topS 31
theorem sc_law : FnScope ["_law_script", "_law_program_here", "_law_state_here", "_law_due", "_law_words", "_law_word", "_law_k", "_law_errors", "_law_found", "_law_error"] ["_law_script"] (defScope s_law) := ⟨rfl, rfl, rfl, by decide +kernel, rfl, by decide +kernel, by decide +kernel⟩
theorem bw_law : BindW s_law "law" ["_law_script"] := (fun _ _ _ _ _ _ us hl => match us, hl with | [_], _ => rfl)
theorem ok_law (T : Txt K mg) (O__law_program : Own P w K mg base "_law_program" 13 ["_law_state_here", "_law_most"] (sp_program)) (O__law_state : Own P w K mg base "_law_state" 1 ["_law_cell", "_law_k"] (sp_state)) (O__law_cell_at : Own P w K mg base "_law_cell_at" 1 ["_law_script", "_law_k"] (sp_cell K)) (O__law_cells : Own P w K mg base "_law_cells" 1 ["_law_program_here"] (sp_lcells)) (O__law_near : Own P w K mg base "_law_near" 2 ["_law_program_here", "_law_words", "_law_state_here"] (sp_near)) (O__law_right : Own P w K mg base "_law_right" 4 ["_law_program_here", "_law_word", "_law_due"] (sp_lright)) (O_word_of : Own P w K mg base "word_of" 1 ["error"] (sp_wordof T.x_NoProgram.C T.x_NoRow.C T.x_TooLong.C T.x_NoWorld.C T.x_NoText.C T.x_NoStep.C T.x_NoCell.C T.x_NoDoor.C T.x_NoWord.C)) : FnW P w K mg base "law" s_law 14 ["_law_script"] (sp_law K) := by
  refine fnW_of (N := ["_law_script", "_law_program_here", "_law_state_here", "_law_due", "_law_words", "_law_word", "_law_k", "_law_errors", "_law_found", "_law_error"]) sc_law (fun vs H Q E h => ?_) (fun f cdv A outer s H vs Q E hr h => ?_)
  · obtain ⟨a, ns, rfl, _⟩ := h; rfl
  · have nd := sc_law.nd
    have hu := L2H.roomH_of hr
    have TK : L2N.Takes (cxOf (L2N.CX P w) P w K mg base ["_law_script", "_law_program_here", "_law_state_here", "_law_due", "_law_words", "_law_word", "_law_k", "_law_errors", "_law_found", "_law_error"] "law" (defScope s_law) f cdv A outer s H E) (fun cls d _ H => E cls d H) := L2N.takes_of rfl rfl rfl rfl
    refine ⟨_, (pss_cons (ps_set (i := 1) nd rfl (by first | exact Or.inl rfl | exact Or.inr rfl) (pe_own O__law_program (by decide) hr rfl (fun σ => L2N.passAt TK σ) (pa_cons (pe_own O__law_state (by decide) hr rfl (fun σ => L2N.passAt TK σ) (pa_cons (pe_own O__law_cell_at (by decide) hr rfl (fun σ => L2N.passAt TK σ) (pa_cons (pv 0) (pa_cons pe_int pa_nil))) (pa_cons pe_int pa_nil))) (pa_cons pe_int pa_nil))))
      (pss_cons (ps_set (i := 2) nd rfl (by first | exact Or.inl rfl | exact Or.inr rfl) (pe_own O__law_state (by decide) hr rfl (fun σ => L2N.passAt TK σ) (pa_cons (pe_own O__law_cell_at (by decide) hr rfl (fun σ => L2N.passAt TK σ) (pa_cons (pv 0) (pa_cons pe_int pa_nil))) (pa_cons pe_int pa_nil))))
      (pss_cons (ps_set (i := 3) nd rfl (by first | exact Or.inl rfl | exact Or.inr rfl) (pe_own O__law_cells (by decide) hr rfl (fun σ => L2N.passAt TK σ) (pa_cons (pv 1) pa_nil)))
      (pss_cons (ps_set (i := 4) nd rfl (by first | exact Or.inl rfl | exact Or.inr rfl) (pe_callTy (call_ulist (K := K) rfl) (by rfl) T.n_list (by decide +kernel) (pa_cons (pv 3) pa_nil)))
      (pss_cons (ps_for (passes_of rfl) rfl (pi_u (K := K) (pe_op (op_uadd (K := K)) (pv 4) (pe_lc (own := [("_law_k", 6)]) rfl nd (pi_range1 rfl T.n_range (pa_cons pe_int pa_nil)) (blkOk_by (N := ["_law_script", "_law_program_here", "_law_state_here", "_law_due", "_law_words", "_law_word", "_law_k", "_law_errors", "_law_found", "_law_error"]) (sc := defScope s_law) (by decide +kernel)) (fun _ _ _ _ _ => (pg_name (i := 6) nd rfl (by first | exact Or.inl rfl | exact Or.inr rfl))) (fun _ _ _ _ _ => pts_nil) (fun _ _ _ _ _ => (pe_own O__law_near (by decide) hr rfl passN (pa_cons (pv 1) (pa_cons (pv 4) (pa_cons (pv 2) pa_nil)))))))) (pg_name (i := 5) nd rfl (by first | exact Or.inl rfl | exact Or.inr rfl))
      (pss_one (ps_if (pt_not (pt_u (K := K) (pe_own O__law_right (by decide) hr rfl (fun σ => L2N.passAt TK σ) (pa_cons (pv 1) (pa_cons (pv 5) (pa_cons (pv 3) pa_nil))))))
      (pss_one (ps_ret pe_bl)) pss_nil)))
      (pss_cons (ps_set (i := 7) nd rfl (by first | exact Or.inl rfl | exact Or.inr rfl) (pe_lst (pa_cons (pe_excU T.x_NoProgram pe_str) (pa_cons (pe_excU T.x_NoRow pe_str) (pa_cons (pe_excU T.x_TooLong pe_str) (pa_cons (pe_excU T.x_NoWorld pe_str) (pa_cons (pe_excU T.x_NoText pe_str) (pa_cons (pe_excU T.x_NoStep pe_str) (pa_cons (pe_excU T.x_NoCell pe_str) pa_nil)))))))))
      (pss_cons (ps_setLc (i := 8) (own := [("_law_error", 9)]) rfl nd rfl rfl (sw_true rfl rfl rfl (by decide +kernel)) (pi_u (K := K) (pe_op (op_uadd (K := K)) (pv 7) (pe_lst (pa_cons (pe_excU T.x_NoDoor pe_str) (pa_cons (pe_excU T.x_NoWord pe_str) pa_nil))))) (blkOk_by (N := ["_law_script", "_law_program_here", "_law_state_here", "_law_due", "_law_words", "_law_word", "_law_k", "_law_errors", "_law_found", "_law_error"]) (sc := defScope s_law) (by decide +kernel)) (fun _ _ _ _ _ => (pg_name (i := 9) nd rfl (by first | exact Or.inl rfl | exact Or.inr rfl))) (fun _ _ _ _ _ => pts_nil) (fun _ _ _ _ _ => (pe_own O_word_of (by decide) hr rfl passN (pa_cons (pv 9) pa_nil))))
      (pss_one (ps_ret (pe_cmpR (op_ueq (K := K) hu) (pv 8) (pe_lst (pa_cons pe_str (pa_cons pe_str (pa_cons pe_str (pa_cons pe_str (pa_cons pe_str (pa_cons pe_str (pa_cons pe_str (pa_cons pe_str (pa_cons pe_str pa_nil)))))))))) (nomark _))))))))))), ?_⟩
    clear nd
    obtain ⟨a, ns, rfl, hS, hl, q⟩ := h
    walk_at "vs"
    refine ⟨a, ns, 0, rfl, hS, hl, by omega, fun c0 => ?_⟩
    walk_at "vs"
    refine ⟨c0, 1, rfl, fun st H1 nst c1 hst => ?_⟩
    walk_at "vs"
    refine ⟨st, 4, rfl, hst, by omega, by omega, fun v p H2 c2 hst2 hr hp => ?_⟩
    walk_at "vs"
    have hS2 : SqL K H2 a (List.map V.int ns) := by
      rcases hS with h | h
      · refine c2.seqLS (c1.seqL (.inl h)) fun o e m => ?_
        rw [List.mem_singleton] at m; subst m
        rcases h with h | ⟨o, h⟩
        · rw [nst] at h; cases h
        · rw [nst] at h; cases h
      · exact .inr h
    refine ⟨a, ns, 1, rfl, hS2, hl, by omega, fun c0' => ?_⟩
    walk_at "vs"
    refine ⟨c0', 2, rfl, fun st2 H3 nst2 c3 hst3 => ?_⟩
    walk_at "vs"
    have hr3 := hr.on c3
    have hk := pgc_of hp
    refine ⟨v, p, rfl, hr3, hk, fun d H4 nd c4 hD4 => ?_⟩
    walk_at "vs"
    have d2 : d ≠ st2 := by
      rintro rfl
      obtain ⟨z, e, _⟩ := hst3.on0 c4
      obtain ⟨kvs, e2, _⟩ := hD4
      rw [e] at e2; cases e2
    obtain ⟨ws, hws, hwl, hwk⟩ := hD4.words (fun _ _ m => cell_len hk.nb hk.nl hk.no m)
    have hsl := seqC_len hk
    obtain ⟨kvs, hd4, hkl⟩ := hws
    refine v_list_d hd4 fun b H5 nb c5 hb => ?_
    rw [hkl] at hb
    walk_at "vs"
    have c35 := c4.trans c5
    refine v_rng1' (by omega) (by omega) ?_
    have s5 := hst3.on0 c35
    refine v_lc_range [st2] (fun i acc H' => StAt H' st2 ∧ ∃ zs : List Str, acc = zs.map V.str ∧ zs.length = i ∧ ∀ z ∈ zs, z.length ≤ 1000) (by
      intro b hm; rw [List.mem_singleton] at hm; subst hm; obtain ⟨z, e, _⟩ := s5; rw [e]; nofun) (fun H' c => ⟨s5.on0 c, [], rfl, rfl, by simp⟩) ?_ ?_
    · rintro D i acc H6 hi nD dS c6 hDl ⟨hst6, zs, rfl, hzl, hz⟩
      have hi6 : i < 6 := hi
      walk_at "vs"
      refine ⟨rfl, ?_⟩
      walk_at "vs"
      have bst : b ≠ st2 := by
        rintro rfl
        obtain ⟨z, e, _⟩ := hst3.on0 c4
        rw [nb] at e; cases e
      refine ⟨v, p, b, st2, ws, rfl, (hr3.on c35).on c6, hk, c6.keep hb (by simpa using bst), by omega, hwk, hst6, fun w' H7 hw' c7 hst7 => ?_⟩
      have dst : D ≠ st2 := by simpa using dS
      refine v_lcA c6 hDl nD dS c7 (line9' (by rw [List.length_map]; omega)) fun H8 c8 => ⟨hst7.on c8 (by simpa using dst.symm), zs ++ [w'], by rw [List.map_append]; rfl, by rw [List.length_append, hzl]; rfl, fun z hm => ?_⟩
      rcases List.mem_append.mp hm with m | m
      · exact hz z m
      · rw [List.mem_singleton] at m; subst m; exact hw'
    rintro D acc H6 c6 nD hDl ⟨hst6, zs, rfl, hzl, hz⟩
    have hzl6 : zs.length = 6 := hzl
    have hb6 : H6 b = some (.lst (ws.map V.str)) := c6.keep hb (by
      rw [List.mem_singleton]
      rintro rfl
      obtain ⟨z, e, _⟩ := hst3.on0 c4
      rw [nb] at e; cases e)
    refine v_add_strs hb6 hDl (by omega) fun l7 H7 nl7 c7 hl7 => ?_
    refine v_it_l (SqL.of hl7) ?_
    have hr7 := ((hr3.on c35).on c6).on c7
    have hD7 : DueAt H7 d (seqC p) := ((hD4.on c5 (by simp)).on c6 (by simpa using d2)).on c7 (by simp)
    refine v_for_list (xs := (ws ++ zs).map V.str) (fun i σ H' => ∃ (w5 : Option V), σ = [some (.ref a), some v, some (.ref st2), some (.ref d), some (.ref b), w5, none, none, none, none] ∧ Chg [] H7 H')
      ⟨_, rfl, .refl⟩ (fun i σ H' _ ⟨_, _, c⟩ => SqL.of (c.at hl7)) ?_ ?_
    · rintro i x σ H8 hi ⟨w5, rfl, c8⟩
      obtain ⟨w', hw', rfl⟩ := map_get hi
      have hwl' : w'.length ≤ 1000 := by
        rcases List.mem_append.mp (List.mem_of_getElem? hw') with m | m
        · have := hwk w' m; omega
        · exact hz w' m
      walk_at "vs"
      refine ⟨v, p, w', d, rfl, hr7.on c8, hk, hwl', hD7.on c8 (by simp), fun H9 c9 => ?_⟩
      walk_at "vs"
      exact ⟨_, rfl, c8.trans c9⟩
    rintro σ H8 ⟨w5, rfl, c8⟩
    walk_at "vs"
    refine v_newE fun e0 E0 ne0 ce0 he0 => ?_
    walk_at "vs"
    refine v_newE fun e1 E1 ne1 ce1 he1 => ?_
    walk_at "vs"
    refine v_newE fun e2 E2 ne2 ce2 he2 => ?_
    walk_at "vs"
    refine v_newE fun e3 E3 ne3 ce3 he3 => ?_
    walk_at "vs"
    refine v_newE fun e4 E4 ne4 ce4 he4 => ?_
    walk_at "vs"
    refine v_newE fun e5 E5 ne5 ce5 he5 => ?_
    walk_at "vs"
    refine v_newE fun e6 E6 ne6 ce6 he6 => ?_
    walk_at "vs"
    refine v_newL (line9 (by show 7 ≤ 10000; decide)) fun g1 G1 ng1 cg1 hg1 => ?_
    walk_at "vs"
    refine v_newE fun e7 E7 ne7 ce7 he7 => ?_
    walk_at "vs"
    refine v_newE fun e8 E8 ne8 ce8 he8 => ?_
    walk_at "vs"
    refine v_newL (line9 (by show 2 ≤ 10000; decide)) fun g2 G2 ng2 cg2 hg2 => ?_
    refine v_add_ll ((ce7.trans (ce8.trans cg2)).at hg1) hg2 (line9 (by show 7 + 2 ≤ 10000; decide)) fun g3 G3 ng3 cg3 hg3 => ?_
    have k8 := cg2.trans cg3
    have k7 := ce8.trans k8
    have k6 := cg1.trans (ce7.trans k7)
    have k5 := ce6.trans k6
    have k4 := ce5.trans k5
    have k3 := ce4.trans k4
    have k2 := ce3.trans k3
    have k1 := ce2.trans k2
    have k0 := ce1.trans k1
    have hE : ∀ (i : Nat) (x : V), ([V.ref e0, .ref e1, .ref e2, .ref e3, .ref e4, .ref e5, .ref e6, .ref e7, .ref e8] : List V)[i]? = some x → ∃ e, x = .ref e ∧ i < 9 ∧ G3 e = some (ExO (.ref (clsN T.x_NoProgram.C T.x_NoRow.C T.x_TooLong.C T.x_NoWorld.C T.x_NoText.C T.x_NoStep.C T.x_NoCell.C T.x_NoDoor.C T.x_NoWord.C i)) e) := by
      intro i x hx
      have hi : i < 9 := (List.getElem?_eq_some_iff.mp hx).1
      have : i = 0 ∨ i = 1 ∨ i = 2 ∨ i = 3 ∨ i = 4 ∨ i = 5 ∨ i = 6 ∨ i = 7 ∨ i = 8 := by omega
      rcases this with rfl | rfl | rfl | rfl | rfl | rfl | rfl | rfl | rfl <;> cases hx
      · exact ⟨e0, rfl, by omega, k0.at he0⟩
      · exact ⟨e1, rfl, by omega, k1.at he1⟩
      · exact ⟨e2, rfl, by omega, k2.at he2⟩
      · exact ⟨e3, rfl, by omega, k3.at he3⟩
      · exact ⟨e4, rfl, by omega, k4.at he4⟩
      · exact ⟨e5, rfl, by omega, k5.at he5⟩
      · exact ⟨e6, rfl, by omega, k6.at he6⟩
      · exact ⟨e7, rfl, by omega, k7.at he7⟩
      · exact ⟨e8, rfl, by omega, k8.at he8⟩
    refine v_it_l (SqL.of hg3) ?_
    refine v_lc_list (xs := [V.ref e0, .ref e1, .ref e2, .ref e3, .ref e4, .ref e5, .ref e6, .ref e7, .ref e8]) [] (fun i acc H' => acc = ((List.range i).map wordN).map V.str) (by simp) (fun H' c => SqL.of (c.at hg3)) (fun H' c => rfl) ?_ ?_
    · rintro D2 i x acc H9 hi nD2 dS2 c9 hD2 rfl
      obtain ⟨e, rfl, hi9, he⟩ := hE i x hi
      walk_at "vs"
      refine ⟨rfl, ?_⟩
      walk_at "vs"
      refine ⟨e, i, rfl, hi9, c9.at he, ?_⟩
      refine v_lcA c9 hD2 nD2 dS2 .refl (line9' (by simp only [List.length_map, List.length_range]; omega)) fun H10 c10 => ?_
      rw [List.range_succ, List.map_append, List.map_append]; rfl
    rintro D2 acc H9 c9 nD2 hD2 rfl
    walk_at "vs"
    refine v_newL (line9 (by show 9 ≤ 10000; decide)) fun f1 F1 nf1 cf1 hf1 => ?_
    refine v_eq_Lr (ds := ((List.range 9).map wordN).map RT.D.str) (SqL.of (cf1.at hD2)) (SqL.of hf1) (rpA_strs word_ok) (rpA_strs word_ok) (by decide) ?_
    exact q F1
end
theorem all_mk {P : Program} {w : World} {K : PySem.W.Frag} {h : Heap} {mg : Str → Option Value} {fa : Addr} (X : K.In h) (G : h.Ns mainGlobals mg) (hfa : mg "law" = some (.ref fa))
    {F0 : Addr} {oc0 : Value} {od0 : Option Addr} {sl0 : Array (Option Value)} {kV0 dc0 pm0 : Value} {an0 : Option Addr} {cd0 ct0 : Value}
    {F1 : Addr} {oc1 : Value} {od1 : Option Addr} {sl1 : Array (Option Value)} {kV1 dc1 pm1 : Value} {an1 : Option Addr} {cd1 ct1 : Value}
    {F2 : Addr} {oc2 : Value} {od2 : Option Addr} {sl2 : Array (Option Value)} {kV2 dc2 pm2 : Value} {an2 : Option Addr} {cd2 ct2 : Value}
    {F3 : Addr} {oc3 : Value} {od3 : Option Addr} {sl3 : Array (Option Value)} {kV3 dc3 pm3 : Value} {an3 : Option Addr} {cd3 ct3 : Value}
    {F4 : Addr} {oc4 : Value} {od4 : Option Addr} {sl4 : Array (Option Value)} {kV4 dc4 pm4 : Value} {an4 : Option Addr} {cd4 ct4 : Value}
    {F5 : Addr} {oc5 : Value} {od5 : Option Addr} {sl5 : Array (Option Value)} {kV5 dc5 pm5 : Value} {an5 : Option Addr} {cd5 ct5 : Value}
    {F6 : Addr} {oc6 : Value} {od6 : Option Addr} {sl6 : Array (Option Value)} {kV6 dc6 pm6 : Value} {an6 : Option Addr} {cd6 ct6 : Value}
    {F7 : Addr} {oc7 : Value} {od7 : Option Addr} {sl7 : Array (Option Value)} {kV7 dc7 pm7 : Value} {an7 : Option Addr} {cd7 ct7 : Value}
    {F8 : Addr} {oc8 : Value} {od8 : Option Addr} {sl8 : Array (Option Value)} {kV8 dc8 pm8 : Value} {an8 : Option Addr} {cd8 ct8 : Value}
    {F9 : Addr} {oc9 : Value} {od9 : Option Addr} {sl9 : Array (Option Value)} {kV9 dc9 pm9 : Value} {an9 : Option Addr} {cd9 ct9 : Value}
    {F10 : Addr} {oc10 : Value} {od10 : Option Addr} {sl10 : Array (Option Value)} {kV10 dc10 pm10 : Value} {an10 : Option Addr} {cd10 ct10 : Value}
    {F11 : Addr} {oc11 : Value} {od11 : Option Addr} {sl11 : Array (Option Value)} {kV11 dc11 pm11 : Value} {an11 : Option Addr} {cd11 ct11 : Value}
    {F12 : Addr} {oc12 : Value} {od12 : Option Addr} {sl12 : Array (Option Value)} {kV12 dc12 pm12 : Value} {an12 : Option Addr} {cd12 ct12 : Value}
    {F13 : Addr} {oc13 : Value} {od13 : Option Addr} {sl13 : Array (Option Value)} {kV13 dc13 pm13 : Value} {an13 : Option Addr} {cd13 ct13 : Value}
    {F14 : Addr} {oc14 : Value} {od14 : Option Addr} {sl14 : Array (Option Value)} {kV14 dc14 pm14 : Value} {an14 : Option Addr} {cd14 ct14 : Value}
    {F15 : Addr} {oc15 : Value} {od15 : Option Addr} {sl15 : Array (Option Value)} {kV15 dc15 pm15 : Value} {an15 : Option Addr} {cd15 ct15 : Value}
    {F16 : Addr} {oc16 : Value} {od16 : Option Addr} {sl16 : Array (Option Value)} {kV16 dc16 pm16 : Value} {an16 : Option Addr} {cd16 ct16 : Value}
    {F17 : Addr} {oc17 : Value} {od17 : Option Addr} {sl17 : Array (Option Value)} {kV17 dc17 pm17 : Value} {an17 : Option Addr} {cd17 ct17 : Value}
    {tc_DEPTHS : Tok}
    {Cx_NoCell : Addr}
    {Cx_NoProgram : Addr}
    {Cx_NoRow : Addr}
    {Cx_TooLong : Addr}
    {Cx_NoWorld : Addr}
    {Cx_NoText : Addr}
    {Cx_NoStep : Addr}
    {Cx_NoDoor : Addr}
    {Cx_NoWord : Addr}
    {Cx_RunError : Addr}
    (a0 : PySem.W.nsIn K mainGlobals "_law_cell_at" = some (some (.ref F0)))
    (l0 : K.lookup F0 = some ⟨oc0, od0, .func (PySem.W.fnOf "_law_cell_at" "_law_cell_at" (defArgs s__law_cell_at) (defBody s__law_cell_at) (defScope s__law_cell_at) .none kV0 dc0 pm0 an0 cd0 ct0), sl0⟩)
    (c0 : PySem.W.codeIn K cd0 "_law_cell_at" = true)
    (k0 : PySem.W.keepIn K (.ref F0) = true)
    (a1 : PySem.W.nsIn K mainGlobals "_law_state" = some (some (.ref F1)))
    (l1 : K.lookup F1 = some ⟨oc1, od1, .func (PySem.W.fnOf "_law_state" "_law_state" (defArgs s__law_state) (defBody s__law_state) (defScope s__law_state) .none kV1 dc1 pm1 an1 cd1 ct1), sl1⟩)
    (c1 : PySem.W.codeIn K cd1 "_law_state" = true)
    (k1 : PySem.W.keepIn K (.ref F1) = true)
    (a2 : PySem.W.nsIn K mainGlobals "_law_next" = some (some (.ref F2)))
    (l2 : K.lookup F2 = some ⟨oc2, od2, .func (PySem.W.fnOf "_law_next" "_law_next" (defArgs s__law_next) (defBody s__law_next) (defScope s__law_next) .none kV2 dc2 pm2 an2 cd2 ct2), sl2⟩)
    (c2 : PySem.W.codeIn K cd2 "_law_next" = true)
    (k2 : PySem.W.keepIn K (.ref F2) = true)
    (a3 : PySem.W.nsIn K mainGlobals "_law_names" = some (some (.ref F3)))
    (l3 : K.lookup F3 = some ⟨oc3, od3, .func (PySem.W.fnOf "_law_names" "_law_names" (defArgs s__law_names) (defBody s__law_names) (defScope s__law_names) .none kV3 dc3 pm3 an3 cd3 ct3), sl3⟩)
    (c3 : PySem.W.codeIn K cd3 "_law_names" = true)
    (k3 : PySem.W.keepIn K (.ref F3) = true)
    (a4 : PySem.W.nsIn K mainGlobals "_law_value" = some (some (.ref F4)))
    (l4 : K.lookup F4 = some ⟨oc4, od4, .func (PySem.W.fnOf "_law_value" "_law_value" (defArgs s__law_value) (defBody s__law_value) (defScope s__law_value) .none kV4 dc4 pm4 an4 cd4 ct4), sl4⟩)
    (c4 : PySem.W.codeIn K cd4 "_law_value" = true)
    (k4 : PySem.W.keepIn K (.ref F4) = true)
    (a5 : PySem.W.nsIn K mainGlobals "_law_plain" = some (some (.ref F5)))
    (l5 : K.lookup F5 = some ⟨oc5, od5, .func (PySem.W.fnOf "_law_plain" "_law_plain" (defArgs s__law_plain) (defBody s__law_plain) (defScope s__law_plain) .none kV5 dc5 pm5 an5 cd5 ct5), sl5⟩)
    (c5 : PySem.W.codeIn K cd5 "_law_plain" = true)
    (k5 : PySem.W.keepIn K (.ref F5) = true)
    (a6 : PySem.W.nsIn K mainGlobals "_law_rows" = some (some (.ref F6)))
    (l6 : K.lookup F6 = some ⟨oc6, od6, .func (PySem.W.fnOf "_law_rows" "_law_rows" (defArgs s__law_rows) (defBody s__law_rows) (defScope s__law_rows) .none kV6 dc6 pm6 an6 cd6 ct6), sl6⟩)
    (c6 : PySem.W.codeIn K cd6 "_law_rows" = true)
    (k6 : PySem.W.keepIn K (.ref F6) = true)
    (a7 : PySem.W.nsIn K mainGlobals "_law_program" = some (some (.ref F7)))
    (l7 : K.lookup F7 = some ⟨oc7, od7, .func (PySem.W.fnOf "_law_program" "_law_program" (defArgs s__law_program) (defBody s__law_program) (defScope s__law_program) .none kV7 dc7 pm7 an7 cd7 ct7), sl7⟩)
    (c7 : PySem.W.codeIn K cd7 "_law_program" = true)
    (k7 : PySem.W.keepIn K (.ref F7) = true)
    (a8 : PySem.W.nsIn K mainGlobals "own_names" = some (some (.ref F8)))
    (l8 : K.lookup F8 = some ⟨oc8, od8, .func (PySem.W.fnOf "own_names" "own_names" (defArgs s_own_names) (defBody s_own_names) (defScope s_own_names) .none kV8 dc8 pm8 an8 cd8 ct8), sl8⟩)
    (c8 : PySem.W.codeIn K cd8 "own_names" = true)
    (k8 : PySem.W.keepIn K (.ref F8) = true)
    (a9 : PySem.W.nsIn K mainGlobals "cell_of" = some (some (.ref F9)))
    (l9 : K.lookup F9 = some ⟨oc9, od9, .func (PySem.W.fnOf "cell_of" "cell_of" (defArgs s_cell_of) (defBody s_cell_of) (defScope s_cell_of) .none kV9 dc9 pm9 an9 cd9 ct9), sl9⟩)
    (c9 : PySem.W.codeIn K cd9 "cell_of" = true)
    (k9 : PySem.W.keepIn K (.ref F9) = true)
    (a10 : PySem.W.nsIn K mainGlobals "cell_word" = some (some (.ref F10)))
    (l10 : K.lookup F10 = some ⟨oc10, od10, .func (PySem.W.fnOf "cell_word" "cell_word" (defArgs s_cell_word) (defBody s_cell_word) (defScope s_cell_word) .none kV10 dc10 pm10 an10 cd10 ct10), sl10⟩)
    (c10 : PySem.W.codeIn K cd10 "cell_word" = true)
    (k10 : PySem.W.keepIn K (.ref F10) = true)
    (a11 : PySem.W.nsIn K mainGlobals "word_of" = some (some (.ref F11)))
    (l11 : K.lookup F11 = some ⟨oc11, od11, .func (PySem.W.fnOf "word_of" "word_of" (defArgs s_word_of) (defBody s_word_of) (defScope s_word_of) .none kV11 dc11 pm11 an11 cd11 ct11), sl11⟩)
    (c11 : PySem.W.codeIn K cd11 "word_of" = true)
    (k11 : PySem.W.keepIn K (.ref F11) = true)
    (a12 : PySem.W.nsIn K mainGlobals "_law_class" = some (some (.ref F12)))
    (l12 : K.lookup F12 = some ⟨oc12, od12, .func (PySem.W.fnOf "_law_class" "_law_class" (defArgs s__law_class) (defBody s__law_class) (defScope s__law_class) .none kV12 dc12 pm12 an12 cd12 ct12), sl12⟩)
    (c12 : PySem.W.codeIn K cd12 "_law_class" = true)
    (k12 : PySem.W.keepIn K (.ref F12) = true)
    (a13 : PySem.W.nsIn K mainGlobals "_law_cells" = some (some (.ref F13)))
    (l13 : K.lookup F13 = some ⟨oc13, od13, .func (PySem.W.fnOf "_law_cells" "_law_cells" (defArgs s__law_cells) (defBody s__law_cells) (defScope s__law_cells) .none kV13 dc13 pm13 an13 cd13 ct13), sl13⟩)
    (c13 : PySem.W.codeIn K cd13 "_law_cells" = true)
    (k13 : PySem.W.keepIn K (.ref F13) = true)
    (a14 : PySem.W.nsIn K mainGlobals "_law_near" = some (some (.ref F14)))
    (l14 : K.lookup F14 = some ⟨oc14, od14, .func (PySem.W.fnOf "_law_near" "_law_near" (defArgs s__law_near) (defBody s__law_near) (defScope s__law_near) .none kV14 dc14 pm14 an14 cd14 ct14), sl14⟩)
    (c14 : PySem.W.codeIn K cd14 "_law_near" = true)
    (k14 : PySem.W.keepIn K (.ref F14) = true)
    (a15 : PySem.W.nsIn K mainGlobals "_law_told" = some (some (.ref F15)))
    (l15 : K.lookup F15 = some ⟨oc15, od15, .func (PySem.W.fnOf "_law_told" "_law_told" (defArgs s__law_told) (defBody s__law_told) (defScope s__law_told) .none kV15 dc15 pm15 an15 cd15 ct15), sl15⟩)
    (c15 : PySem.W.codeIn K cd15 "_law_told" = true)
    (k15 : PySem.W.keepIn K (.ref F15) = true)
    (a16 : PySem.W.nsIn K mainGlobals "_law_right" = some (some (.ref F16)))
    (l16 : K.lookup F16 = some ⟨oc16, od16, .func (PySem.W.fnOf "_law_right" "_law_right" (defArgs s__law_right) (defBody s__law_right) (defScope s__law_right) .none kV16 dc16 pm16 an16 cd16 ct16), sl16⟩)
    (c16 : PySem.W.codeIn K cd16 "_law_right" = true)
    (k16 : PySem.W.keepIn K (.ref F16) = true)
    (a17 : PySem.W.nsIn K mainGlobals "law" = some (some (.ref F17)))
    (l17 : K.lookup F17 = some ⟨oc17, od17, .func (PySem.W.fnOf "law" "law" (defArgs s_law) (defBody s_law) (defScope s_law) .none kV17 dc17 pm17 an17 cd17 ct17), sl17⟩)
    (c17 : PySem.W.codeIn K cd17 "law" = true)
    (k17 : PySem.W.keepIn K (.ref F17) = true)
    (n_len : PySem.W.nsIn K mainGlobals "len" = some none)
    (n_range : PySem.W.nsIn K mainGlobals "range" = some none)
    (n_tuple : PySem.W.nsIn K mainGlobals "tuple" = some none)
    (n_list : PySem.W.nsIn K mainGlobals "list" = some none)
    (n_int : PySem.W.nsIn K mainGlobals "int" = some none)
    (c_DEPTHS : PySem.W.nsIn K mainGlobals "DEPTHS" = some (some (.str "1234567" tc_DEPTHS)))
    (n_str : PySem.W.nsIn K mainGlobals "str" = some none)
    (n_isinstance : PySem.W.nsIn K mainGlobals "isinstance" = some none)
    (n_ValueError : PySem.W.nsIn K mainGlobals "ValueError" = some none)
    (n_bool : PySem.W.nsIn K mainGlobals "bool" = some none)
    (x_NoCellg : PySem.W.nsIn K mainGlobals "NoCell" = some (some (.ref Cx_NoCell)))
    (x_NoCellex : PySem.W.excIn K Cx_NoCell [.type "ValueError", .type "Exception", .type "BaseException", .type "object"] "ValueError.__new__" = true)
    (x_NoCellkp : PySem.W.keepIn K (.ref Cx_NoCell) = true)
    (x_NoCellsub : PySem.W.subIn K (.ref Cx_NoCell) (.type "BaseException") = some true)
    (x_NoCellty : PySem.W.typeIn K (.ref Cx_NoCell) = some (.type "type"))
    (x_NoCellhg : PySem.W.findIn K (.ref Cx_NoCell) "__getattribute__" = some (some (.builtin "BaseException.__getattribute__")))
    (x_NoCellhk : PySem.W.findIn K (.ref Cx_NoCell) "__getattr__" = some none)
    (x_NoCellhd : PySem.W.hasDictIn K Cx_NoCell = true)
    (x_NoCellha : PySem.W.findIn K (.ref Cx_NoCell) "__class__" = some (some (.builtin "object.__class__")))
    (x_NoCellhm : PySem.W.mroIn K Cx_NoCell (.type "object") = some true)
    (x_NoProgramg : PySem.W.nsIn K mainGlobals "NoProgram" = some (some (.ref Cx_NoProgram)))
    (x_NoProgramex : PySem.W.excIn K Cx_NoProgram [.type "ValueError", .type "Exception", .type "BaseException", .type "object"] "ValueError.__new__" = true)
    (x_NoProgramkp : PySem.W.keepIn K (.ref Cx_NoProgram) = true)
    (x_NoProgramsub : PySem.W.subIn K (.ref Cx_NoProgram) (.type "BaseException") = some true)
    (x_NoProgramty : PySem.W.typeIn K (.ref Cx_NoProgram) = some (.type "type"))
    (x_NoProgramhg : PySem.W.findIn K (.ref Cx_NoProgram) "__getattribute__" = some (some (.builtin "BaseException.__getattribute__")))
    (x_NoProgramhk : PySem.W.findIn K (.ref Cx_NoProgram) "__getattr__" = some none)
    (x_NoProgramhd : PySem.W.hasDictIn K Cx_NoProgram = true)
    (x_NoProgramha : PySem.W.findIn K (.ref Cx_NoProgram) "__class__" = some (some (.builtin "object.__class__")))
    (x_NoProgramhm : PySem.W.mroIn K Cx_NoProgram (.type "object") = some true)
    (x_NoRowg : PySem.W.nsIn K mainGlobals "NoRow" = some (some (.ref Cx_NoRow)))
    (x_NoRowex : PySem.W.excIn K Cx_NoRow [.type "ValueError", .type "Exception", .type "BaseException", .type "object"] "ValueError.__new__" = true)
    (x_NoRowkp : PySem.W.keepIn K (.ref Cx_NoRow) = true)
    (x_NoRowsub : PySem.W.subIn K (.ref Cx_NoRow) (.type "BaseException") = some true)
    (x_NoRowty : PySem.W.typeIn K (.ref Cx_NoRow) = some (.type "type"))
    (x_NoRowhg : PySem.W.findIn K (.ref Cx_NoRow) "__getattribute__" = some (some (.builtin "BaseException.__getattribute__")))
    (x_NoRowhk : PySem.W.findIn K (.ref Cx_NoRow) "__getattr__" = some none)
    (x_NoRowhd : PySem.W.hasDictIn K Cx_NoRow = true)
    (x_NoRowha : PySem.W.findIn K (.ref Cx_NoRow) "__class__" = some (some (.builtin "object.__class__")))
    (x_NoRowhm : PySem.W.mroIn K Cx_NoRow (.type "object") = some true)
    (x_TooLongg : PySem.W.nsIn K mainGlobals "TooLong" = some (some (.ref Cx_TooLong)))
    (x_TooLongex : PySem.W.excIn K Cx_TooLong [.type "ValueError", .type "Exception", .type "BaseException", .type "object"] "ValueError.__new__" = true)
    (x_TooLongkp : PySem.W.keepIn K (.ref Cx_TooLong) = true)
    (x_TooLongsub : PySem.W.subIn K (.ref Cx_TooLong) (.type "BaseException") = some true)
    (x_TooLongty : PySem.W.typeIn K (.ref Cx_TooLong) = some (.type "type"))
    (x_TooLonghg : PySem.W.findIn K (.ref Cx_TooLong) "__getattribute__" = some (some (.builtin "BaseException.__getattribute__")))
    (x_TooLonghk : PySem.W.findIn K (.ref Cx_TooLong) "__getattr__" = some none)
    (x_TooLonghd : PySem.W.hasDictIn K Cx_TooLong = true)
    (x_TooLongha : PySem.W.findIn K (.ref Cx_TooLong) "__class__" = some (some (.builtin "object.__class__")))
    (x_TooLonghm : PySem.W.mroIn K Cx_TooLong (.type "object") = some true)
    (x_NoWorldg : PySem.W.nsIn K mainGlobals "NoWorld" = some (some (.ref Cx_NoWorld)))
    (x_NoWorldex : PySem.W.excIn K Cx_NoWorld [.type "ValueError", .type "Exception", .type "BaseException", .type "object"] "ValueError.__new__" = true)
    (x_NoWorldkp : PySem.W.keepIn K (.ref Cx_NoWorld) = true)
    (x_NoWorldsub : PySem.W.subIn K (.ref Cx_NoWorld) (.type "BaseException") = some true)
    (x_NoWorldty : PySem.W.typeIn K (.ref Cx_NoWorld) = some (.type "type"))
    (x_NoWorldhg : PySem.W.findIn K (.ref Cx_NoWorld) "__getattribute__" = some (some (.builtin "BaseException.__getattribute__")))
    (x_NoWorldhk : PySem.W.findIn K (.ref Cx_NoWorld) "__getattr__" = some none)
    (x_NoWorldhd : PySem.W.hasDictIn K Cx_NoWorld = true)
    (x_NoWorldha : PySem.W.findIn K (.ref Cx_NoWorld) "__class__" = some (some (.builtin "object.__class__")))
    (x_NoWorldhm : PySem.W.mroIn K Cx_NoWorld (.type "object") = some true)
    (x_NoTextg : PySem.W.nsIn K mainGlobals "NoText" = some (some (.ref Cx_NoText)))
    (x_NoTextex : PySem.W.excIn K Cx_NoText [.type "ValueError", .type "Exception", .type "BaseException", .type "object"] "ValueError.__new__" = true)
    (x_NoTextkp : PySem.W.keepIn K (.ref Cx_NoText) = true)
    (x_NoTextsub : PySem.W.subIn K (.ref Cx_NoText) (.type "BaseException") = some true)
    (x_NoTextty : PySem.W.typeIn K (.ref Cx_NoText) = some (.type "type"))
    (x_NoTexthg : PySem.W.findIn K (.ref Cx_NoText) "__getattribute__" = some (some (.builtin "BaseException.__getattribute__")))
    (x_NoTexthk : PySem.W.findIn K (.ref Cx_NoText) "__getattr__" = some none)
    (x_NoTexthd : PySem.W.hasDictIn K Cx_NoText = true)
    (x_NoTextha : PySem.W.findIn K (.ref Cx_NoText) "__class__" = some (some (.builtin "object.__class__")))
    (x_NoTexthm : PySem.W.mroIn K Cx_NoText (.type "object") = some true)
    (x_NoStepg : PySem.W.nsIn K mainGlobals "NoStep" = some (some (.ref Cx_NoStep)))
    (x_NoStepex : PySem.W.excIn K Cx_NoStep [.type "ValueError", .type "Exception", .type "BaseException", .type "object"] "ValueError.__new__" = true)
    (x_NoStepkp : PySem.W.keepIn K (.ref Cx_NoStep) = true)
    (x_NoStepsub : PySem.W.subIn K (.ref Cx_NoStep) (.type "BaseException") = some true)
    (x_NoStepty : PySem.W.typeIn K (.ref Cx_NoStep) = some (.type "type"))
    (x_NoStephg : PySem.W.findIn K (.ref Cx_NoStep) "__getattribute__" = some (some (.builtin "BaseException.__getattribute__")))
    (x_NoStephk : PySem.W.findIn K (.ref Cx_NoStep) "__getattr__" = some none)
    (x_NoStephd : PySem.W.hasDictIn K Cx_NoStep = true)
    (x_NoStepha : PySem.W.findIn K (.ref Cx_NoStep) "__class__" = some (some (.builtin "object.__class__")))
    (x_NoStephm : PySem.W.mroIn K Cx_NoStep (.type "object") = some true)
    (x_NoDoorg : PySem.W.nsIn K mainGlobals "NoDoor" = some (some (.ref Cx_NoDoor)))
    (x_NoDoorex : PySem.W.excIn K Cx_NoDoor [.type "ValueError", .type "Exception", .type "BaseException", .type "object"] "ValueError.__new__" = true)
    (x_NoDoorkp : PySem.W.keepIn K (.ref Cx_NoDoor) = true)
    (x_NoDoorsub : PySem.W.subIn K (.ref Cx_NoDoor) (.type "BaseException") = some true)
    (x_NoDoorty : PySem.W.typeIn K (.ref Cx_NoDoor) = some (.type "type"))
    (x_NoDoorhg : PySem.W.findIn K (.ref Cx_NoDoor) "__getattribute__" = some (some (.builtin "BaseException.__getattribute__")))
    (x_NoDoorhk : PySem.W.findIn K (.ref Cx_NoDoor) "__getattr__" = some none)
    (x_NoDoorhd : PySem.W.hasDictIn K Cx_NoDoor = true)
    (x_NoDoorha : PySem.W.findIn K (.ref Cx_NoDoor) "__class__" = some (some (.builtin "object.__class__")))
    (x_NoDoorhm : PySem.W.mroIn K Cx_NoDoor (.type "object") = some true)
    (x_NoWordg : PySem.W.nsIn K mainGlobals "NoWord" = some (some (.ref Cx_NoWord)))
    (x_NoWordex : PySem.W.excIn K Cx_NoWord [.type "ValueError", .type "Exception", .type "BaseException", .type "object"] "ValueError.__new__" = true)
    (x_NoWordkp : PySem.W.keepIn K (.ref Cx_NoWord) = true)
    (x_NoWordsub : PySem.W.subIn K (.ref Cx_NoWord) (.type "BaseException") = some true)
    (x_NoWordty : PySem.W.typeIn K (.ref Cx_NoWord) = some (.type "type"))
    (x_NoWordhg : PySem.W.findIn K (.ref Cx_NoWord) "__getattribute__" = some (some (.builtin "BaseException.__getattribute__")))
    (x_NoWordhk : PySem.W.findIn K (.ref Cx_NoWord) "__getattr__" = some none)
    (x_NoWordhd : PySem.W.hasDictIn K Cx_NoWord = true)
    (x_NoWordha : PySem.W.findIn K (.ref Cx_NoWord) "__class__" = some (some (.builtin "object.__class__")))
    (x_NoWordhm : PySem.W.mroIn K Cx_NoWord (.type "object") = some true)
    (x_RunErrorg : PySem.W.nsIn K mainGlobals "RunError" = some (some (.ref Cx_RunError)))
    (x_RunErrorex : PySem.W.excIn K Cx_RunError [.type "ValueError", .type "Exception", .type "BaseException", .type "object"] "ValueError.__new__" = true)
    (x_RunErrorkp : PySem.W.keepIn K (.ref Cx_RunError) = true)
    (x_RunErrorsub : PySem.W.subIn K (.ref Cx_RunError) (.type "BaseException") = some true)
    (x_RunErrorty : PySem.W.typeIn K (.ref Cx_RunError) = some (.type "type"))
    (x_RunErrorhg : PySem.W.findIn K (.ref Cx_RunError) "__getattribute__" = some (some (.builtin "BaseException.__getattribute__")))
    (x_RunErrorhk : PySem.W.findIn K (.ref Cx_RunError) "__getattr__" = some none)
    (x_RunErrorhd : PySem.W.hasDictIn K Cx_RunError = true)
    (x_RunErrorha : PySem.W.findIn K (.ref Cx_RunError) "__class__" = some (some (.builtin "object.__class__")))
    (x_RunErrorhm : PySem.W.mroIn K Cx_RunError (.type "object") = some true)
    (xhn : PySem.W.specialIn K (.builtin "object.__class__") "__get__" = some (some (.builtin "getset_descriptor.__get__")))
    (xht : PySem.W.takesIn K (.builtin "object.__class__") = some true)
    (kit_NoProgram__NoProgram : PySem.W.kitOne K (.ref Cx_NoProgram) (.ref Cx_NoProgram) = some true)
    (kit_NoRow__NoProgram : PySem.W.kitOne K (.ref Cx_NoRow) (.ref Cx_NoProgram) = some false)
    (kit_NoRow__NoRow : PySem.W.kitOne K (.ref Cx_NoRow) (.ref Cx_NoRow) = some true)
    (kit_TooLong__NoProgram : PySem.W.kitOne K (.ref Cx_TooLong) (.ref Cx_NoProgram) = some false)
    (kit_TooLong__NoRow : PySem.W.kitOne K (.ref Cx_TooLong) (.ref Cx_NoRow) = some false)
    (kit_TooLong__TooLong : PySem.W.kitOne K (.ref Cx_TooLong) (.ref Cx_TooLong) = some true)
    (kit_NoWorld__NoProgram : PySem.W.kitOne K (.ref Cx_NoWorld) (.ref Cx_NoProgram) = some false)
    (kit_NoWorld__NoRow : PySem.W.kitOne K (.ref Cx_NoWorld) (.ref Cx_NoRow) = some false)
    (kit_NoWorld__TooLong : PySem.W.kitOne K (.ref Cx_NoWorld) (.ref Cx_TooLong) = some false)
    (kit_NoWorld__NoWorld : PySem.W.kitOne K (.ref Cx_NoWorld) (.ref Cx_NoWorld) = some true)
    (kit_NoText__NoProgram : PySem.W.kitOne K (.ref Cx_NoText) (.ref Cx_NoProgram) = some false)
    (kit_NoText__NoRow : PySem.W.kitOne K (.ref Cx_NoText) (.ref Cx_NoRow) = some false)
    (kit_NoText__TooLong : PySem.W.kitOne K (.ref Cx_NoText) (.ref Cx_TooLong) = some false)
    (kit_NoText__NoWorld : PySem.W.kitOne K (.ref Cx_NoText) (.ref Cx_NoWorld) = some false)
    (kit_NoText__NoText : PySem.W.kitOne K (.ref Cx_NoText) (.ref Cx_NoText) = some true)
    (kit_NoStep__NoProgram : PySem.W.kitOne K (.ref Cx_NoStep) (.ref Cx_NoProgram) = some false)
    (kit_NoStep__NoRow : PySem.W.kitOne K (.ref Cx_NoStep) (.ref Cx_NoRow) = some false)
    (kit_NoStep__TooLong : PySem.W.kitOne K (.ref Cx_NoStep) (.ref Cx_TooLong) = some false)
    (kit_NoStep__NoWorld : PySem.W.kitOne K (.ref Cx_NoStep) (.ref Cx_NoWorld) = some false)
    (kit_NoStep__NoText : PySem.W.kitOne K (.ref Cx_NoStep) (.ref Cx_NoText) = some false)
    (kit_NoStep__NoStep : PySem.W.kitOne K (.ref Cx_NoStep) (.ref Cx_NoStep) = some true)
    (kit_NoCell__NoProgram : PySem.W.kitOne K (.ref Cx_NoCell) (.ref Cx_NoProgram) = some false)
    (kit_NoCell__NoRow : PySem.W.kitOne K (.ref Cx_NoCell) (.ref Cx_NoRow) = some false)
    (kit_NoCell__TooLong : PySem.W.kitOne K (.ref Cx_NoCell) (.ref Cx_TooLong) = some false)
    (kit_NoCell__NoWorld : PySem.W.kitOne K (.ref Cx_NoCell) (.ref Cx_NoWorld) = some false)
    (kit_NoCell__NoText : PySem.W.kitOne K (.ref Cx_NoCell) (.ref Cx_NoText) = some false)
    (kit_NoCell__NoStep : PySem.W.kitOne K (.ref Cx_NoCell) (.ref Cx_NoStep) = some false)
    (kit_NoCell__NoCell : PySem.W.kitOne K (.ref Cx_NoCell) (.ref Cx_NoCell) = some true)
    (kit_NoDoor__NoProgram : PySem.W.kitOne K (.ref Cx_NoDoor) (.ref Cx_NoProgram) = some false)
    (kit_NoDoor__NoRow : PySem.W.kitOne K (.ref Cx_NoDoor) (.ref Cx_NoRow) = some false)
    (kit_NoDoor__TooLong : PySem.W.kitOne K (.ref Cx_NoDoor) (.ref Cx_TooLong) = some false)
    (kit_NoDoor__NoWorld : PySem.W.kitOne K (.ref Cx_NoDoor) (.ref Cx_NoWorld) = some false)
    (kit_NoDoor__NoText : PySem.W.kitOne K (.ref Cx_NoDoor) (.ref Cx_NoText) = some false)
    (kit_NoDoor__NoStep : PySem.W.kitOne K (.ref Cx_NoDoor) (.ref Cx_NoStep) = some false)
    (kit_NoDoor__NoCell : PySem.W.kitOne K (.ref Cx_NoDoor) (.ref Cx_NoCell) = some false)
    (kit_NoDoor__NoDoor : PySem.W.kitOne K (.ref Cx_NoDoor) (.ref Cx_NoDoor) = some true)
    (kit_NoWord__NoProgram : PySem.W.kitOne K (.ref Cx_NoWord) (.ref Cx_NoProgram) = some false)
    (kit_NoWord__NoRow : PySem.W.kitOne K (.ref Cx_NoWord) (.ref Cx_NoRow) = some false)
    (kit_NoWord__TooLong : PySem.W.kitOne K (.ref Cx_NoWord) (.ref Cx_TooLong) = some false)
    (kit_NoWord__NoWorld : PySem.W.kitOne K (.ref Cx_NoWord) (.ref Cx_NoWorld) = some false)
    (kit_NoWord__NoText : PySem.W.kitOne K (.ref Cx_NoWord) (.ref Cx_NoText) = some false)
    (kit_NoWord__NoStep : PySem.W.kitOne K (.ref Cx_NoWord) (.ref Cx_NoStep) = some false)
    (kit_NoWord__NoCell : PySem.W.kitOne K (.ref Cx_NoWord) (.ref Cx_NoCell) = some false)
    (kit_NoWord__NoDoor : PySem.W.kitOne K (.ref Cx_NoWord) (.ref Cx_NoDoor) = some false)
    (kit_NoCell__NoDoor : PySem.W.kitOne K (.ref Cx_NoCell) (.ref Cx_NoDoor) = some false)
    (kit_NoCell__NoWord : PySem.W.kitOne K (.ref Cx_NoCell) (.ref Cx_NoWord) = some false)
    (kit_NoCell_T_ValueError : PySem.W.kitOne K (.ref Cx_NoCell) (.type "ValueError") = some true)
    (exm_NoCell__RunError : PySem.W.exmOne K (.ref Cx_NoCell) (.ref Cx_RunError) = some true)
    : ∃ fd : FuncData, (∀ (s : Shared) (u : Value), BindsTo s fd ⟨[u], []⟩ [("_law_script", u)]) ∧ ∀ base : Heap, K.In base → base.Ns mainGlobals mg → FnOk P w K mg base (L2N.CX P w) 14 fa fd ["_law_script"] (sp_law K) := by
  have T : Txt K mg := { n_len := PySem.W.mg_none_of X G n_len, n_range := PySem.W.mg_none_of X G n_range, n_tuple := PySem.W.mg_none_of X G n_tuple, n_list := PySem.W.mg_none_of X G n_list, n_int := PySem.W.mg_none_of X G n_int, c_DEPTHS := ⟨_, PySem.W.mg_of X G c_DEPTHS, ⟨_, rfl⟩⟩, n_str := PySem.W.mg_none_of X G n_str, n_isinstance := PySem.W.mg_none_of X G n_isinstance, n_ValueError := PySem.W.mg_none_of X G n_ValueError, n_bool := PySem.W.mg_none_of X G n_bool, x_NoCell := ⟨Cx_NoCell, PySem.W.mg_of X G x_NoCellg, x_NoCellex, x_NoCellkp, x_NoCellsub, x_NoCellty, ⟨x_NoCellhg, x_NoCellhk, x_NoCellsub, x_NoCellhd, x_NoCellha, xhn, xht, x_NoCellhm⟩⟩, x_NoProgram := ⟨Cx_NoProgram, PySem.W.mg_of X G x_NoProgramg, x_NoProgramex, x_NoProgramkp, x_NoProgramsub, x_NoProgramty, ⟨x_NoProgramhg, x_NoProgramhk, x_NoProgramsub, x_NoProgramhd, x_NoProgramha, xhn, xht, x_NoProgramhm⟩⟩, x_NoRow := ⟨Cx_NoRow, PySem.W.mg_of X G x_NoRowg, x_NoRowex, x_NoRowkp, x_NoRowsub, x_NoRowty, ⟨x_NoRowhg, x_NoRowhk, x_NoRowsub, x_NoRowhd, x_NoRowha, xhn, xht, x_NoRowhm⟩⟩, x_TooLong := ⟨Cx_TooLong, PySem.W.mg_of X G x_TooLongg, x_TooLongex, x_TooLongkp, x_TooLongsub, x_TooLongty, ⟨x_TooLonghg, x_TooLonghk, x_TooLongsub, x_TooLonghd, x_TooLongha, xhn, xht, x_TooLonghm⟩⟩, x_NoWorld := ⟨Cx_NoWorld, PySem.W.mg_of X G x_NoWorldg, x_NoWorldex, x_NoWorldkp, x_NoWorldsub, x_NoWorldty, ⟨x_NoWorldhg, x_NoWorldhk, x_NoWorldsub, x_NoWorldhd, x_NoWorldha, xhn, xht, x_NoWorldhm⟩⟩, x_NoText := ⟨Cx_NoText, PySem.W.mg_of X G x_NoTextg, x_NoTextex, x_NoTextkp, x_NoTextsub, x_NoTextty, ⟨x_NoTexthg, x_NoTexthk, x_NoTextsub, x_NoTexthd, x_NoTextha, xhn, xht, x_NoTexthm⟩⟩, x_NoStep := ⟨Cx_NoStep, PySem.W.mg_of X G x_NoStepg, x_NoStepex, x_NoStepkp, x_NoStepsub, x_NoStepty, ⟨x_NoStephg, x_NoStephk, x_NoStepsub, x_NoStephd, x_NoStepha, xhn, xht, x_NoStephm⟩⟩, x_NoDoor := ⟨Cx_NoDoor, PySem.W.mg_of X G x_NoDoorg, x_NoDoorex, x_NoDoorkp, x_NoDoorsub, x_NoDoorty, ⟨x_NoDoorhg, x_NoDoorhk, x_NoDoorsub, x_NoDoorhd, x_NoDoorha, xhn, xht, x_NoDoorhm⟩⟩, x_NoWord := ⟨Cx_NoWord, PySem.W.mg_of X G x_NoWordg, x_NoWordex, x_NoWordkp, x_NoWordsub, x_NoWordty, ⟨x_NoWordhg, x_NoWordhk, x_NoWordsub, x_NoWordhd, x_NoWordha, xhn, xht, x_NoWordhm⟩⟩, x_RunError := ⟨Cx_RunError, PySem.W.mg_of X G x_RunErrorg, x_RunErrorex, x_RunErrorkp, x_RunErrorsub, x_RunErrorty, ⟨x_RunErrorhg, x_RunErrorhk, x_RunErrorsub, x_RunErrorhd, x_RunErrorha, xhn, xht, x_RunErrorhm⟩⟩, kit_NoProgram__NoProgram := kit_NoProgram__NoProgram, kit_NoRow__NoProgram := kit_NoRow__NoProgram, kit_NoRow__NoRow := kit_NoRow__NoRow, kit_TooLong__NoProgram := kit_TooLong__NoProgram, kit_TooLong__NoRow := kit_TooLong__NoRow, kit_TooLong__TooLong := kit_TooLong__TooLong, kit_NoWorld__NoProgram := kit_NoWorld__NoProgram, kit_NoWorld__NoRow := kit_NoWorld__NoRow, kit_NoWorld__TooLong := kit_NoWorld__TooLong, kit_NoWorld__NoWorld := kit_NoWorld__NoWorld, kit_NoText__NoProgram := kit_NoText__NoProgram, kit_NoText__NoRow := kit_NoText__NoRow, kit_NoText__TooLong := kit_NoText__TooLong, kit_NoText__NoWorld := kit_NoText__NoWorld, kit_NoText__NoText := kit_NoText__NoText, kit_NoStep__NoProgram := kit_NoStep__NoProgram, kit_NoStep__NoRow := kit_NoStep__NoRow, kit_NoStep__TooLong := kit_NoStep__TooLong, kit_NoStep__NoWorld := kit_NoStep__NoWorld, kit_NoStep__NoText := kit_NoStep__NoText, kit_NoStep__NoStep := kit_NoStep__NoStep, kit_NoCell__NoProgram := kit_NoCell__NoProgram, kit_NoCell__NoRow := kit_NoCell__NoRow, kit_NoCell__TooLong := kit_NoCell__TooLong, kit_NoCell__NoWorld := kit_NoCell__NoWorld, kit_NoCell__NoText := kit_NoCell__NoText, kit_NoCell__NoStep := kit_NoCell__NoStep, kit_NoCell__NoCell := kit_NoCell__NoCell, kit_NoDoor__NoProgram := kit_NoDoor__NoProgram, kit_NoDoor__NoRow := kit_NoDoor__NoRow, kit_NoDoor__TooLong := kit_NoDoor__TooLong, kit_NoDoor__NoWorld := kit_NoDoor__NoWorld, kit_NoDoor__NoText := kit_NoDoor__NoText, kit_NoDoor__NoStep := kit_NoDoor__NoStep, kit_NoDoor__NoCell := kit_NoDoor__NoCell, kit_NoDoor__NoDoor := kit_NoDoor__NoDoor, kit_NoWord__NoProgram := kit_NoWord__NoProgram, kit_NoWord__NoRow := kit_NoWord__NoRow, kit_NoWord__TooLong := kit_NoWord__TooLong, kit_NoWord__NoWorld := kit_NoWord__NoWorld, kit_NoWord__NoText := kit_NoWord__NoText, kit_NoWord__NoStep := kit_NoWord__NoStep, kit_NoWord__NoCell := kit_NoWord__NoCell, kit_NoWord__NoDoor := kit_NoWord__NoDoor, kit_NoCell__NoDoor := kit_NoCell__NoDoor, kit_NoCell__NoWord := kit_NoCell__NoWord, kit_NoCell_T_ValueError := kit_NoCell_T_ValueError, exm_NoCell__RunError := exm_NoCell__RunError }
  have D__law_cell_at : DefAt K mg "_law_cell_at" s__law_cell_at := ⟨F0, _, PySem.W.mg_of X G a0, fun_mk l0 c0 k0⟩
  have D__law_state : DefAt K mg "_law_state" s__law_state := ⟨F1, _, PySem.W.mg_of X G a1, fun_mk l1 c1 k1⟩
  have D__law_next : DefAt K mg "_law_next" s__law_next := ⟨F2, _, PySem.W.mg_of X G a2, fun_mk l2 c2 k2⟩
  have D__law_names : DefAt K mg "_law_names" s__law_names := ⟨F3, _, PySem.W.mg_of X G a3, fun_mk l3 c3 k3⟩
  have D__law_value : DefAt K mg "_law_value" s__law_value := ⟨F4, _, PySem.W.mg_of X G a4, fun_mk l4 c4 k4⟩
  have D__law_plain : DefAt K mg "_law_plain" s__law_plain := ⟨F5, _, PySem.W.mg_of X G a5, fun_mk l5 c5 k5⟩
  have D__law_rows : DefAt K mg "_law_rows" s__law_rows := ⟨F6, _, PySem.W.mg_of X G a6, fun_mk l6 c6 k6⟩
  have D__law_program : DefAt K mg "_law_program" s__law_program := ⟨F7, _, PySem.W.mg_of X G a7, fun_mk l7 c7 k7⟩
  have D_own_names : DefAt K mg "own_names" s_own_names := ⟨F8, _, PySem.W.mg_of X G a8, fun_mk l8 c8 k8⟩
  have D_cell_of : DefAt K mg "cell_of" s_cell_of := ⟨F9, _, PySem.W.mg_of X G a9, fun_mk l9 c9 k9⟩
  have D_cell_word : DefAt K mg "cell_word" s_cell_word := ⟨F10, _, PySem.W.mg_of X G a10, fun_mk l10 c10 k10⟩
  have D_word_of : DefAt K mg "word_of" s_word_of := ⟨F11, _, PySem.W.mg_of X G a11, fun_mk l11 c11 k11⟩
  have D__law_class : DefAt K mg "_law_class" s__law_class := ⟨F12, _, PySem.W.mg_of X G a12, fun_mk l12 c12 k12⟩
  have D__law_cells : DefAt K mg "_law_cells" s__law_cells := ⟨F13, _, PySem.W.mg_of X G a13, fun_mk l13 c13 k13⟩
  have D__law_near : DefAt K mg "_law_near" s__law_near := ⟨F14, _, PySem.W.mg_of X G a14, fun_mk l14 c14 k14⟩
  have D__law_told : DefAt K mg "_law_told" s__law_told := ⟨F15, _, PySem.W.mg_of X G a15, fun_mk l15 c15 k15⟩
  have D__law_right : DefAt K mg "_law_right" s__law_right := ⟨F16, _, PySem.W.mg_of X G a16, fun_mk l16 c16 k16⟩
  have D_law : DefAt K mg "law" s_law := ⟨F17, _, PySem.W.mg_of X G a17, fun_mk l17 c17 k17⟩
  refine law_F D_law bw_law (fun base _ _ => ?_) hfa
  have O__law_cell_at : Own P w K mg base "_law_cell_at" 1 ["_law_script", "_law_k"] (sp_cell K) := ok__law_cell_at T D__law_cell_at
  have O__law_state : Own P w K mg base "_law_state" 1 ["_law_cell", "_law_k"] (sp_state) := ok__law_state T D__law_state
  have O__law_next : Own P w K mg base "_law_next" 1 ["_law_state_here", "_law_size"] (sp_next) := ok__law_next T D__law_next
  have O__law_names : Own P w K mg base "_law_names" 2 ["_law_state_here", "_law_amount"] (sp_names) := ok__law_names T D__law_names O__law_next
  have O__law_value : Own P w K mg base "_law_value" 6 ["_law_state_here", "_law_deep", "_law_boxes", "_law_lists"] (sp_value 4) := ok__law_value T D__law_value O__law_next 4
  have O__law_plain : Own P w K mg base "_law_plain" 7 ["_law_state_here", "_law_names_here"] (sp_plain) := ok__law_plain T D__law_plain O__law_next O__law_value
  have O__law_rows : Own P w K mg base "_law_rows" 12 ["_law_state_here", "_law_names_here", "_law_deep", "_law_most", "_law_left"] (sp_rows 4) := ok__law_rows T D__law_rows O__law_next O__law_plain O__law_value 4
  have O__law_program : Own P w K mg base "_law_program" 13 ["_law_state_here", "_law_most"] (sp_program) := ok__law_program T D__law_program O__law_names O__law_next O__law_rows O__law_value
  have O_own_names : Own P w K mg base "own_names" 1 ["program"] (sp_own) := ok_own_names T D_own_names
  have O_cell_of : Own P w K mg base "cell_of" 2 ["program", "word"] (sp_cellof T.x_NoCell.C) := ok_cell_of T D_cell_of O_own_names
  have O_cell_word : Own P w K mg base "cell_word" 1 ["cell"] (sp_cword) := ok_cell_word T D_cell_word
  have O_word_of : Own P w K mg base "word_of" 1 ["error"] (sp_wordof T.x_NoProgram.C T.x_NoRow.C T.x_TooLong.C T.x_NoWorld.C T.x_NoText.C T.x_NoStep.C T.x_NoCell.C T.x_NoDoor.C T.x_NoWord.C) := ok_word_of T D_word_of
  have O__law_class : OwnP P w K mg base "_law_class" 1 ["_law_e"] (sp_class T.x_NoCell.C) := ok__law_class T D__law_class
  have O__law_cells : Own P w K mg base "_law_cells" 1 ["_law_program_here"] (sp_lcells) := ok__law_cells T D__law_cells
  have O__law_near : Own P w K mg base "_law_near" 2 ["_law_program_here", "_law_words", "_law_state_here"] (sp_near) := ok__law_near T D__law_near O__law_next
  have O__law_told : Own P w K mg base "_law_told" 3 ["_law_program_here", "_law_word"] (sp_told T.x_NoCell.C) := ok__law_told T D__law_told O_cell_of O__law_class
  have O__law_right : Own P w K mg base "_law_right" 4 ["_law_program_here", "_law_word", "_law_due"] (sp_lright) := ok__law_right T D__law_right O__law_told O_cell_word
  exact ok_law T O__law_program O__law_state O__law_cell_at O__law_cells O__law_near O__law_right O_word_of
theorem walk {l : PySem.W.OpenLaw} {q : Program} {loose : List Str} {XP : (Str → Option Value) → Heap → Prop} {YP : World → Heap → Prop} {d : DefRec} {K : Params → PySem.W.Frag} (hn : l.most = some 63) (hdf : d.params.defaults = [])
    (hY : ∀ (w : World) (h : Heap), YP w h → (K w.params).In h)
    (F : ∀ (w : World) (mg : Str → Option Value) (fa : Addr) (h : Heap), (K w.params).In h → h.Ns mainGlobals mg → mg d.name = some (.ref fa) →
      ∃ fd : FuncData, (∀ (s : Shared) (u : Value), BindsTo s fd ⟨[u], []⟩ [("_law_script", u)]) ∧ ∀ base : Heap, (K w.params).In base → base.Ns mainGlobals mg → FnOk l.prog w (K w.params) mg base (L2N.CX l.prog w) 14 fa fd ["_law_script"] (sp_law (K w.params))) :
    PySem.W.WalkO q loose XP YP l.row.toRowW d [] (fun f vs => PySem.call f vs) :=
  L2.walk_of (n := 63) (k := 14) (x := "_law_script") (CX := fun w => L2N.CX l.prog w) (sp := fun w => (sp_law (K w.params))) hn (by decide) hdf ⟨rfl, by decide, by decide⟩ hY F
    (fun w H a ns hl hO hS => sp_law_start hl hO hS) fun _ _ _ _ _ z => noneN z
end Cl
open PySem PySem.W PyProof.Rows
set_option maxRecDepth 100000 in
set_option maxHeartbeats 0 in
theorem PySem.Challenge.cw_retrace_k80_words_holds : PySem.Challenge.rw_retrace_k80_words.Holds := by
  w_on; o_law; k_head; (case hw => w_witness2)
  k_fill
  refine Cl.walk (l := PySem.Challenge.rw_retrace_k80_words) rfl rfl (fun w h Y => PySem.W.kIn_of Y) ?F
  case F =>
    intro w mg fa h KX G hmg
    refine' Cl.all_mk KX G hmg ?a0 ?l0 ?c0 ?k0 ?a1 ?l1 ?c1 ?k1 ?a2 ?l2 ?c2 ?k2 ?a3 ?l3 ?c3 ?k3 ?a4 ?l4 ?c4 ?k4 ?a5 ?l5 ?c5 ?k5 ?a6 ?l6 ?c6 ?k6 ?a7 ?l7 ?c7 ?k7 ?a8 ?l8 ?c8 ?k8 ?a9 ?l9 ?c9 ?k9 ?a10 ?l10 ?c10 ?k10 ?a11 ?l11 ?c11 ?k11 ?a12 ?l12 ?c12 ?k12 ?a13 ?l13 ?c13 ?k13 ?a14 ?l14 ?c14 ?k14 ?a15 ?l15 ?c15 ?k15 ?a16 ?l16 ?c16 ?k16 ?a17 ?l17 ?c17 ?k17 ?n_len ?n_range ?n_tuple ?n_list ?n_int ?c_DEPTHS ?n_str ?n_isinstance ?n_ValueError ?n_bool ?x_NoCellg ?x_NoCellex ?x_NoCellkp ?x_NoCellsub ?x_NoCellty ?x_NoCellhg ?x_NoCellhk ?x_NoCellhd ?x_NoCellha ?x_NoCellhm ?x_NoProgramg ?x_NoProgramex ?x_NoProgramkp ?x_NoProgramsub ?x_NoProgramty ?x_NoProgramhg ?x_NoProgramhk ?x_NoProgramhd ?x_NoProgramha ?x_NoProgramhm ?x_NoRowg ?x_NoRowex ?x_NoRowkp ?x_NoRowsub ?x_NoRowty ?x_NoRowhg ?x_NoRowhk ?x_NoRowhd ?x_NoRowha ?x_NoRowhm ?x_TooLongg ?x_TooLongex ?x_TooLongkp ?x_TooLongsub ?x_TooLongty ?x_TooLonghg ?x_TooLonghk ?x_TooLonghd ?x_TooLongha ?x_TooLonghm ?x_NoWorldg ?x_NoWorldex ?x_NoWorldkp ?x_NoWorldsub ?x_NoWorldty ?x_NoWorldhg ?x_NoWorldhk ?x_NoWorldhd ?x_NoWorldha ?x_NoWorldhm ?x_NoTextg ?x_NoTextex ?x_NoTextkp ?x_NoTextsub ?x_NoTextty ?x_NoTexthg ?x_NoTexthk ?x_NoTexthd ?x_NoTextha ?x_NoTexthm ?x_NoStepg ?x_NoStepex ?x_NoStepkp ?x_NoStepsub ?x_NoStepty ?x_NoStephg ?x_NoStephk ?x_NoStephd ?x_NoStepha ?x_NoStephm ?x_NoDoorg ?x_NoDoorex ?x_NoDoorkp ?x_NoDoorsub ?x_NoDoorty ?x_NoDoorhg ?x_NoDoorhk ?x_NoDoorhd ?x_NoDoorha ?x_NoDoorhm ?x_NoWordg ?x_NoWordex ?x_NoWordkp ?x_NoWordsub ?x_NoWordty ?x_NoWordhg ?x_NoWordhk ?x_NoWordhd ?x_NoWordha ?x_NoWordhm ?x_RunErrorg ?x_RunErrorex ?x_RunErrorkp ?x_RunErrorsub ?x_RunErrorty ?x_RunErrorhg ?x_RunErrorhk ?x_RunErrorhd ?x_RunErrorha ?x_RunErrorhm ?xhn ?xht ?kit_NoProgram__NoProgram ?kit_NoRow__NoProgram ?kit_NoRow__NoRow ?kit_TooLong__NoProgram ?kit_TooLong__NoRow ?kit_TooLong__TooLong ?kit_NoWorld__NoProgram ?kit_NoWorld__NoRow ?kit_NoWorld__TooLong ?kit_NoWorld__NoWorld ?kit_NoText__NoProgram ?kit_NoText__NoRow ?kit_NoText__TooLong ?kit_NoText__NoWorld ?kit_NoText__NoText ?kit_NoStep__NoProgram ?kit_NoStep__NoRow ?kit_NoStep__TooLong ?kit_NoStep__NoWorld ?kit_NoStep__NoText ?kit_NoStep__NoStep ?kit_NoCell__NoProgram ?kit_NoCell__NoRow ?kit_NoCell__TooLong ?kit_NoCell__NoWorld ?kit_NoCell__NoText ?kit_NoCell__NoStep ?kit_NoCell__NoCell ?kit_NoDoor__NoProgram ?kit_NoDoor__NoRow ?kit_NoDoor__TooLong ?kit_NoDoor__NoWorld ?kit_NoDoor__NoText ?kit_NoDoor__NoStep ?kit_NoDoor__NoCell ?kit_NoDoor__NoDoor ?kit_NoWord__NoProgram ?kit_NoWord__NoRow ?kit_NoWord__TooLong ?kit_NoWord__NoWorld ?kit_NoWord__NoText ?kit_NoWord__NoStep ?kit_NoWord__NoCell ?kit_NoWord__NoDoor ?kit_NoCell__NoDoor ?kit_NoCell__NoWord ?kit_NoCell_T_ValueError ?exm_NoCell__RunError
    (case a0 => first | k_is | rfl)
    (case l0 => first | k_is | rfl)
    (case c0 => first | k_is | rfl)
    (case k0 => first | k_is | rfl)
    (case a1 => first | k_is | rfl)
    (case l1 => first | k_is | rfl)
    (case c1 => first | k_is | rfl)
    (case k1 => first | k_is | rfl)
    (case a2 => first | k_is | rfl)
    (case l2 => first | k_is | rfl)
    (case c2 => first | k_is | rfl)
    (case k2 => first | k_is | rfl)
    (case a3 => first | k_is | rfl)
    (case l3 => first | k_is | rfl)
    (case c3 => first | k_is | rfl)
    (case k3 => first | k_is | rfl)
    (case a4 => first | k_is | rfl)
    (case l4 => first | k_is | rfl)
    (case c4 => first | k_is | rfl)
    (case k4 => first | k_is | rfl)
    (case a5 => first | k_is | rfl)
    (case l5 => first | k_is | rfl)
    (case c5 => first | k_is | rfl)
    (case k5 => first | k_is | rfl)
    (case a6 => first | k_is | rfl)
    (case l6 => first | k_is | rfl)
    (case c6 => first | k_is | rfl)
    (case k6 => first | k_is | rfl)
    (case a7 => first | k_is | rfl)
    (case l7 => first | k_is | rfl)
    (case c7 => first | k_is | rfl)
    (case k7 => first | k_is | rfl)
    (case a8 => first | k_is | rfl)
    (case l8 => first | k_is | rfl)
    (case c8 => first | k_is | rfl)
    (case k8 => first | k_is | rfl)
    (case a9 => first | k_is | rfl)
    (case l9 => first | k_is | rfl)
    (case c9 => first | k_is | rfl)
    (case k9 => first | k_is | rfl)
    (case a10 => first | k_is | rfl)
    (case l10 => first | k_is | rfl)
    (case c10 => first | k_is | rfl)
    (case k10 => first | k_is | rfl)
    (case a11 => first | k_is | rfl)
    (case l11 => first | k_is | rfl)
    (case c11 => first | k_is | rfl)
    (case k11 => first | k_is | rfl)
    (case a12 => first | k_is | rfl)
    (case l12 => first | k_is | rfl)
    (case c12 => first | k_is | rfl)
    (case k12 => first | k_is | rfl)
    (case a13 => first | k_is | rfl)
    (case l13 => first | k_is | rfl)
    (case c13 => first | k_is | rfl)
    (case k13 => first | k_is | rfl)
    (case a14 => first | k_is | rfl)
    (case l14 => first | k_is | rfl)
    (case c14 => first | k_is | rfl)
    (case k14 => first | k_is | rfl)
    (case a15 => first | k_is | rfl)
    (case l15 => first | k_is | rfl)
    (case c15 => first | k_is | rfl)
    (case k15 => first | k_is | rfl)
    (case a16 => first | k_is | rfl)
    (case l16 => first | k_is | rfl)
    (case c16 => first | k_is | rfl)
    (case k16 => first | k_is | rfl)
    (case a17 => first | k_is | rfl)
    (case l17 => first | k_is | rfl)
    (case c17 => first | k_is | rfl)
    (case k17 => first | k_is | rfl)
    (case n_len => first | k_is | rfl)
    (case n_range => first | k_is | rfl)
    (case n_tuple => first | k_is | rfl)
    (case n_list => first | k_is | rfl)
    (case n_int => first | k_is | rfl)
    (case c_DEPTHS => first | k_is | rfl)
    (case n_str => first | k_is | rfl)
    (case n_isinstance => first | k_is | rfl)
    (case n_ValueError => first | k_is | rfl)
    (case n_bool => first | k_is | rfl)
    (case x_NoCellg => first | k_is | rfl)
    (case x_NoCellex => k_exc)
    (case x_NoCellkp => first | k_is | rfl)
    (case x_NoCellsub => first | k_is | rfl)
    (case x_NoCellty => first | k_is | rfl)
    (case x_NoCellhg => first | k_is | rfl)
    (case x_NoCellhk => first | k_is | rfl)
    (case x_NoCellhd => first | k_is | rfl)
    (case x_NoCellha => first | k_is | rfl)
    (case x_NoCellhm => first | k_is | rfl)
    (case x_NoProgramg => first | k_is | rfl)
    (case x_NoProgramex => k_exc)
    (case x_NoProgramkp => first | k_is | rfl)
    (case x_NoProgramsub => first | k_is | rfl)
    (case x_NoProgramty => first | k_is | rfl)
    (case x_NoProgramhg => first | k_is | rfl)
    (case x_NoProgramhk => first | k_is | rfl)
    (case x_NoProgramhd => first | k_is | rfl)
    (case x_NoProgramha => first | k_is | rfl)
    (case x_NoProgramhm => first | k_is | rfl)
    (case x_NoRowg => first | k_is | rfl)
    (case x_NoRowex => k_exc)
    (case x_NoRowkp => first | k_is | rfl)
    (case x_NoRowsub => first | k_is | rfl)
    (case x_NoRowty => first | k_is | rfl)
    (case x_NoRowhg => first | k_is | rfl)
    (case x_NoRowhk => first | k_is | rfl)
    (case x_NoRowhd => first | k_is | rfl)
    (case x_NoRowha => first | k_is | rfl)
    (case x_NoRowhm => first | k_is | rfl)
    (case x_TooLongg => first | k_is | rfl)
    (case x_TooLongex => k_exc)
    (case x_TooLongkp => first | k_is | rfl)
    (case x_TooLongsub => first | k_is | rfl)
    (case x_TooLongty => first | k_is | rfl)
    (case x_TooLonghg => first | k_is | rfl)
    (case x_TooLonghk => first | k_is | rfl)
    (case x_TooLonghd => first | k_is | rfl)
    (case x_TooLongha => first | k_is | rfl)
    (case x_TooLonghm => first | k_is | rfl)
    (case x_NoWorldg => first | k_is | rfl)
    (case x_NoWorldex => k_exc)
    (case x_NoWorldkp => first | k_is | rfl)
    (case x_NoWorldsub => first | k_is | rfl)
    (case x_NoWorldty => first | k_is | rfl)
    (case x_NoWorldhg => first | k_is | rfl)
    (case x_NoWorldhk => first | k_is | rfl)
    (case x_NoWorldhd => first | k_is | rfl)
    (case x_NoWorldha => first | k_is | rfl)
    (case x_NoWorldhm => first | k_is | rfl)
    (case x_NoTextg => first | k_is | rfl)
    (case x_NoTextex => k_exc)
    (case x_NoTextkp => first | k_is | rfl)
    (case x_NoTextsub => first | k_is | rfl)
    (case x_NoTextty => first | k_is | rfl)
    (case x_NoTexthg => first | k_is | rfl)
    (case x_NoTexthk => first | k_is | rfl)
    (case x_NoTexthd => first | k_is | rfl)
    (case x_NoTextha => first | k_is | rfl)
    (case x_NoTexthm => first | k_is | rfl)
    (case x_NoStepg => first | k_is | rfl)
    (case x_NoStepex => k_exc)
    (case x_NoStepkp => first | k_is | rfl)
    (case x_NoStepsub => first | k_is | rfl)
    (case x_NoStepty => first | k_is | rfl)
    (case x_NoStephg => first | k_is | rfl)
    (case x_NoStephk => first | k_is | rfl)
    (case x_NoStephd => first | k_is | rfl)
    (case x_NoStepha => first | k_is | rfl)
    (case x_NoStephm => first | k_is | rfl)
    (case x_NoDoorg => first | k_is | rfl)
    (case x_NoDoorex => k_exc)
    (case x_NoDoorkp => first | k_is | rfl)
    (case x_NoDoorsub => first | k_is | rfl)
    (case x_NoDoorty => first | k_is | rfl)
    (case x_NoDoorhg => first | k_is | rfl)
    (case x_NoDoorhk => first | k_is | rfl)
    (case x_NoDoorhd => first | k_is | rfl)
    (case x_NoDoorha => first | k_is | rfl)
    (case x_NoDoorhm => first | k_is | rfl)
    (case x_NoWordg => first | k_is | rfl)
    (case x_NoWordex => k_exc)
    (case x_NoWordkp => first | k_is | rfl)
    (case x_NoWordsub => first | k_is | rfl)
    (case x_NoWordty => first | k_is | rfl)
    (case x_NoWordhg => first | k_is | rfl)
    (case x_NoWordhk => first | k_is | rfl)
    (case x_NoWordhd => first | k_is | rfl)
    (case x_NoWordha => first | k_is | rfl)
    (case x_NoWordhm => first | k_is | rfl)
    (case x_RunErrorg => first | k_is | rfl)
    (case x_RunErrorex => k_exc)
    (case x_RunErrorkp => first | k_is | rfl)
    (case x_RunErrorsub => first | k_is | rfl)
    (case x_RunErrorty => first | k_is | rfl)
    (case x_RunErrorhg => first | k_is | rfl)
    (case x_RunErrorhk => first | k_is | rfl)
    (case x_RunErrorhd => first | k_is | rfl)
    (case x_RunErrorha => first | k_is | rfl)
    (case x_RunErrorhm => first | k_is | rfl)
    (case xhn => first | k_is | rfl)
    (case xht => first | k_is | rfl)
    (case kit_NoProgram__NoProgram => first | k_is | rfl)
    (case kit_NoRow__NoProgram => first | k_is | rfl)
    (case kit_NoRow__NoRow => first | k_is | rfl)
    (case kit_TooLong__NoProgram => first | k_is | rfl)
    (case kit_TooLong__NoRow => first | k_is | rfl)
    (case kit_TooLong__TooLong => first | k_is | rfl)
    (case kit_NoWorld__NoProgram => first | k_is | rfl)
    (case kit_NoWorld__NoRow => first | k_is | rfl)
    (case kit_NoWorld__TooLong => first | k_is | rfl)
    (case kit_NoWorld__NoWorld => first | k_is | rfl)
    (case kit_NoText__NoProgram => first | k_is | rfl)
    (case kit_NoText__NoRow => first | k_is | rfl)
    (case kit_NoText__TooLong => first | k_is | rfl)
    (case kit_NoText__NoWorld => first | k_is | rfl)
    (case kit_NoText__NoText => first | k_is | rfl)
    (case kit_NoStep__NoProgram => first | k_is | rfl)
    (case kit_NoStep__NoRow => first | k_is | rfl)
    (case kit_NoStep__TooLong => first | k_is | rfl)
    (case kit_NoStep__NoWorld => first | k_is | rfl)
    (case kit_NoStep__NoText => first | k_is | rfl)
    (case kit_NoStep__NoStep => first | k_is | rfl)
    (case kit_NoCell__NoProgram => first | k_is | rfl)
    (case kit_NoCell__NoRow => first | k_is | rfl)
    (case kit_NoCell__TooLong => first | k_is | rfl)
    (case kit_NoCell__NoWorld => first | k_is | rfl)
    (case kit_NoCell__NoText => first | k_is | rfl)
    (case kit_NoCell__NoStep => first | k_is | rfl)
    (case kit_NoCell__NoCell => first | k_is | rfl)
    (case kit_NoDoor__NoProgram => first | k_is | rfl)
    (case kit_NoDoor__NoRow => first | k_is | rfl)
    (case kit_NoDoor__TooLong => first | k_is | rfl)
    (case kit_NoDoor__NoWorld => first | k_is | rfl)
    (case kit_NoDoor__NoText => first | k_is | rfl)
    (case kit_NoDoor__NoStep => first | k_is | rfl)
    (case kit_NoDoor__NoCell => first | k_is | rfl)
    (case kit_NoDoor__NoDoor => first | k_is | rfl)
    (case kit_NoWord__NoProgram => first | k_is | rfl)
    (case kit_NoWord__NoRow => first | k_is | rfl)
    (case kit_NoWord__TooLong => first | k_is | rfl)
    (case kit_NoWord__NoWorld => first | k_is | rfl)
    (case kit_NoWord__NoText => first | k_is | rfl)
    (case kit_NoWord__NoStep => first | k_is | rfl)
    (case kit_NoWord__NoCell => first | k_is | rfl)
    (case kit_NoWord__NoDoor => first | k_is | rfl)
    (case kit_NoCell__NoDoor => first | k_is | rfl)
    (case kit_NoCell__NoWord => first | k_is | rfl)
    (case kit_NoCell_T_ValueError => first | k_is | rfl)
    (case exm_NoCell__RunError => first | k_is | rfl)
