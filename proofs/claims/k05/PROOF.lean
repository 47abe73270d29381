import PyProof.Rows.All
import Wide.All
import OpenK.AllK
import Wide.FinOn
import HandS.ForMost
import HandS.ForExc
import HandS.ExcCtx
import HandS.HotCalls
import HandS.ExcIs
import HandS.IsInst
import HandS.Flow
import HandS.SetFor
import HandS.SortInts
import HandS.Conv
import HandS.WideBits
import HandS.TupAny
import HandS.TupMul
import HandS.TupSets
import HandS.Set
import HandS.Strs
import PyProof.Rows.SortStr
import HandS.Deep
import HandS.Text
import HandS.Flow
import HandS.RaiseMore
import HandS.ExcValue
import PyProof.FitsInt
import HandS.DictComp
import HandS.More
import KE.GoesEnum
import KE.GoesZip
import KE.GoesMore
import HandS.DictTup
import HandS.ListItems
import KE.KDictPairs
import HandS.Style
import HandS.ListEq
import PySem.Challenge.RW_retrace_k05_whole_bounds
set_option Elab.async false
set_option linter.all false
set_option maxRecDepth 100000
set_option maxHeartbeats 4000000
namespace RT
open PySem PySem.Spec PyProof.Rows L2 L2H
/-! ## 1. a def called while an error is held: its promise may speak of that error -/
abbrev SpP := Addr → Value → Option Addr → Sp
structure FnP (P : Program) (w : World) (K : PySem.W.Frag) (mg : Str → Option Value) (base : Heap) (CX : CXT)
    (k : Nat) (f : Addr) (fd : FuncData) (ps : List Str) (sp : SpP) : Prop where
  len : ∀ a c d vs H Q E, sp a c d vs H Q E → vs.length = ps.length
  run : ∀ (A : Around) (outer : List Env) (s : Shared) (H : Hp) (args : Args) (us : List Value) (vs : List V)
    (Q : VK) (E : XK) (e : Addr × Obj) (cls : Value) (d : Option Addr), RoomH k A → Hot1 A e → Zc cls d e.2 → PinOk outer H s e →
    Env0 P w K mg base A outer s H → BindsTo s fd args (ps.zip us) → Vals vs us → sp e.1 cls d vs H Q E →
    codeAny (model P w) A (.call (.ref f) args) (CR CX outer P w H s Q E) s
theorem fn_ofP {CX : CXT} {P : Program} {w : World} {K : PySem.W.Frag} {mg : Str → Option Value} {base : Heap} {k : Nat}
    {f : Addr} {name qual : Str} {params : Arguments} {body : List Stmt} {scope : Scope} {dV kV doc pm cdv ct oc : Value}
    {an od : Option Addr} {osl : Array (Option Value)} {N ps : List Str} {sp : SpP}
    (lk : K.lookup f = some ⟨oc, od, .func (PySem.W.fnOf name qual params body scope dV kV doc pm an cdv ct), osl⟩)
    (hcd : PySem.W.codeIn K cdv qual = true) (S : FnScope N ps scope)
    (len : ∀ a c d vs H Q E, sp a c d vs H Q E → vs.length = ps.length)
    (hbody : ∀ (A : Around) (outer : List Env) (s : Shared) (H : Hp) (vs : List V) (Q : VK) (E : XK) (e : Addr × Obj) (cls : Value) (d : Option Addr),
      Hot1 A e → Zc cls d e.2 → RoomH k (A.deeper (envOfC qual scope s.heap.objs.size f cdv)) → sp e.1 cls d vs H Q E →
      ∃ t, PSs (cxH CX P w K mg base N qual scope f cdv A outer s H E e) body t ∧
        t { nx := fun _ H' => Q .non H', rt := Q } (L2.start N vs) H) :
    FnP P w K mg base CX (k + 1) f (PySem.W.fnOf name qual params body scope dV kV doc pm an cdv ct) ps sp := by
  constructor
  · exact len
  · intro A outer s H args us vs Q E e cls d hr hot hz hpin e0 hb r hsp
    have hl := len _ _ _ _ _ _ _ hsp
    have KX : K.In s.heap := e0.mod.kin.keeps fun b o z => (e0.bs b o z).1
    have lim : s.heap.NoLimit := e0.mod.nolimit.keeps fun b o z => (e0.bs b o z).1
    refine codeAny_call_function hr.depth (KX _ _ lk) rfl S.co S.gen rfl (PySem.W.codeRec_of KX hcd)
      (hb _ _ _ _ ?_)
    refine wpAny_newFunctionEnv_cells S.kind (fun y hy => ?_) fun env he s1 x => ?_
    · obtain ⟨n, v⟩ := y
      rcases S.par n (List.of_mem_zip hy).1 with q | q
      · exact .inl q
      · exact .inr ⟨q, PySem.W.cellsFrom_some _ _ _ (.inl q)⟩
    subst he
    refine ⟨lim.keeps x.toInCall.keep, codeAny_func ?_⟩
    obtain ⟨t, ht, hq⟩ := hbody A outer s H vs Q E e cls d hot hz (hr.deeper _) hsp
    have I := inv_startH (CX := CX) (E := E) S hpin e0 hl r x
    refine wpAny_mono (ht.run [] s1 (L2.start N vs) H _ I hq) (fun fl s' hs => ?_) fun u s' hs => hs
    cases fl with
    | ret u =>
      obtain ⟨v, σ', H', J, rv, q⟩ := hs
      exact ⟨v, H', J.os, J.bare, J.base, J.hok, rv, q⟩
    | next =>
      obtain ⟨σ', H', J, q⟩ := hs
      exact ⟨.non, H', J.os, J.bare, J.base, J.hok, rfl, q⟩
    | brk => exact hs.elim fun _ z => z.elim fun _ z => z.2.elim
    | cont => exact hs.elim fun _ z => z.elim fun _ z => z.2.elim
/-- the suite's own held error, in the callee's eyes -/
theorem pe_callP {X : Cx} {CX : CXT} {k : Nat} {f : Addr} {fd : FuncData} {ps : List Str} {sp : SpP} {E : L2.St → XK}
    {x : Str} {q pos : Pos} {e : Expr} {es : List Expr} {t : TA} {p : Addr × Obj} {cls : Value} {d : Option Addr}
    (F : FnP X.prog X.w X.K X.mg X.base CX k f fd ps sp) (hr : RoomH k X.A) (hot : Hot1 X.A p) (hp : p ∈ X.pn) (hz : Zc cls d p.2)
    (hg : Gl X x) (hm : X.mg x = some (.ref f)) (hk : PySem.W.keepIn X.K (.ref f) = true) (hb : Binds X.K fd ps [])
    (hx : ∀ σ, PassesAt CX X σ (E σ)) (ha : PA X (e :: es) t) (hdb : (x == ("__debug__" : Str)) = false := by decide)
    (he : starEach (e :: es) X.env = (false, eval e X.env) :: starEach es X.env := by rfl)
    (hpl : (backTo pos (starEach es X.env)).any (·.1) = false := by rfl) :
    PE X (.Call (.Name x q) (e :: es) [] pos) (tCallS (sp p.1 cls d) E t) := by
  constructor
  intro pins s σ H Q I h
  refine wpAny_Call_Name_kw (ld_glob I hg hm ?_ hdb)
  refine PySem.W.callWith_K (h₀ := X.base) I.ok.mod.kin hk
    (thn (ha.run pos pins s σ H _ I h) fun us s1 ⟨vs, H1, I1, r, q1⟩ => ⟨I1.kIn, ?_⟩) he hpl
  have hl : us.length = ps.length := by rw [← r.length]; exact F.len _ _ _ _ _ _ _ q1
  have b := hb s1 us I1.kIn (by rw [List.append_nil]; exact hl)
  rw [List.append_nil] at b
  have P1 := I1.pin p (List.mem_append_left _ hp)
  have hpin : PinOk X.stack H1 s1 p := ⟨P1.1, P1.2.1, fun hm1 => by
    rcases List.mem_cons.mp (I1.stkSub p.1 hm1) with z | z
    · exact P1.2.2.1 z
    · exact P1.2.2.2.1 z, P1.2.2.2.2⟩
  refine wpAny_call (codeAny_mono (F.run X.A X.stack s1 H1 ⟨us, []⟩ us vs Q (E σ) p cls d hr hot hz hpin I1.env0 b r q1) fun rr s' hq => ?_)
  cases rr with
  | error u => exact hx σ pins H1 s1 u s' I1 hq
  | ok fl =>
    cases fl with
    | ret u => exact I1.after hq
    | next => exact hq.elim
    | brk => exact hq.elim
    | cont => exact hq.elim
/-- isinstance of an error that is pinned -/
def uIsE (K : PySem.W.Frag) (cls : Value) (d : Option Addr) (a : Addr) : List V → Hp → VK → Prop := fun xs H Q =>
  ∃ (D : Addr) (c : V) (cv : Value) (b : Bool), cls = .ref D ∧ d = none ∧ ExcC K D ∧ xs = [.ref a, c] ∧
    (∀ u, RelV c u → u = cv) ∧ PySem.W.kitOne K (.ref D) cv = some b ∧ Q (.bl b) H
theorem call_isP {X : Cx} {K : PySem.W.Frag} {e : Addr × Obj} {cls : Value} {d : Option Addr} (hp : e ∈ X.pn) (hz : Zc cls d e.2)
    (hf : ∃ vs, e.2.data = .fields vs) (hK : X.K = K := by rfl) : CallR X (.builtin "isinstance") (uIsE K cls d e.1) := by
  subst hK
  intro pins s σ H xs us Q I r h
  obtain ⟨D, c, cv, b, rfl, rfl, C, rfl, hcv, ek, q⟩ := h
  obtain ⟨u1, u2, rfl, r1, r2⟩ := Vals.two r
  obtain rfl := hcv _ r2
  obtain rfl : u1 = Value.ref e.1 := r1
  have hget := (I.pin e (List.mem_append_left _ hp)).1
  obtain ⟨vs, hv⟩ := hf
  have J : PySem.W.InstAt s.heap e.1 e.2 D none := by
    obtain ⟨a, oc, od, oda, osl⟩ := e
    obtain ⟨h1, h2⟩ := hz
    dsimp only at h1 h2 hv hget
    subst h1 h2 hv
    exact ⟨hget, rfl, rfl, trivial⟩
  refine PySem.W.kia_one (PySem.W.handS_kitx_exc C.hg C.hk C.hs C.hd C.ha C.hn C.ht C.hm) I.kIn J ek (fun z => nomatch z) fun tk => ?_
  exact ⟨.bl b, H, I.kept (t' := tk) fun _ _ z => z, rfl, q⟩
/-! ## 2. a def of the text: its body, errors may leave it -/
section
variable {P : Program} {w : World} {K : PySem.W.Frag} {mg : Str → Option Value} {base : Heap}
theorem okN {x qual : Str} {st : Stmt} {f : Addr} {fd : FuncData} {N ps : List Str} {k : Nat} {sp : Sp}
    (F : Fun K x qual st f fd) (S : FnScope N ps (defScope st)) (len : ∀ vs H Q E, sp vs H Q E → vs.length = ps.length)
    (hbody : ∀ (cdv : Value) (A : Around) (outer : List Env) (s : Shared) (H : Hp) (vs : List V) (Q : VK) (E : XK),
      Room k (A.deeper (envOfC qual (defScope st) s.heap.objs.size f cdv)) → sp vs H Q E →
      ∃ t, PSs (cxOf (L2N.CX P w) P w K mg base N qual (defScope st) f cdv A outer s H E) (defBody st) t ∧
        t ⟨fun _ H' => Q .non H', Q, fun _ _ => False, fun _ _ => False⟩ (L2.start N vs) H) :
    FnOk P w K mg base (L2N.CX P w) (k + 1) f fd ps sp := by
  obtain ⟨oc, od, kV, doc, pm, an, cdv, ct, osl, rfl, lk, hcd⟩ := F.ex
  exact fn_of lk hcd S len fun A outer s H vs Q E hr hsp => hbody cdv A outer s H vs Q E hr hsp
theorem okP {x qual : Str} {st : Stmt} {f : Addr} {fd : FuncData} {N ps : List Str} {k : Nat} {sp : SpP}
    (F : Fun K x qual st f fd) (S : FnScope N ps (defScope st)) (len : ∀ a c d vs H Q E, sp a c d vs H Q E → vs.length = ps.length)
    (hbody : ∀ (cdv : Value) (A : Around) (outer : List Env) (s : Shared) (H : Hp) (vs : List V) (Q : VK) (E : XK) (e : Addr × Obj) (cls : Value) (d : Option Addr),
      Hot1 A e → Zc cls d e.2 → RoomH k (A.deeper (envOfC qual (defScope st) s.heap.objs.size f cdv)) → sp e.1 cls d vs H Q E →
      ∃ t, PSs (cxH (L2N.CX P w) P w K mg base N qual (defScope st) f cdv A outer s H E e) (defBody st) t ∧
        t ⟨fun _ H' => Q .non H', Q, fun _ _ => False, fun _ _ => False⟩ (L2.start N vs) H) :
    FnP P w K mg base (L2N.CX P w) (k + 1) f fd ps sp := by
  obtain ⟨oc, od, kV, doc, pm, an, cdv, ct, osl, rfl, lk, hcd⟩ := F.ex
  exact fn_ofP lk hcd S len fun A outer s H vs Q E e cls d hot hz hr hsp => hbody cdv A outer s H vs Q E e cls d hot hz hr hsp
end
/-- nothing is let out -/
theorem passN {X : Cx} : ∀ σ, PassesAt (L2N.CX X.prog X.w) X σ ((fun _ => E0) σ) := by
  intro σ pins H s e s' I h
  obtain ⟨_, _, _, _, _, _, _, _, _, _, _, _, z⟩ := h
  exact z.elim
/-! ## 3. operators that take what comes -/
section
variable {X : Cx} {K : PySem.W.Frag}
def uCnt (K : PySem.W.Frag) : V → List V → Hp → VK → Prop := fun x vs H Q => ∃ (p : Addr) (xs : List V) (y : V),
  x = .ref p ∧ vs = [y] ∧ SqL K H p xs ∧ flatV y = true ∧ xs.all flatV = true ∧ Q (.int (xs.countP fun z => eqV z y : Nat)) H
theorem countP_eqU {x : V} : ∀ {xs : List V} {us : List Value}, Vals xs us → xs.all flatV = true →
    us.countP (eqU x) = xs.countP fun y => eqV y x
  | _, _, .nil, _ => rfl
  | y :: xs, u :: us, .cons r t, f => by
    rw [List.all_cons, Bool.and_eq_true] at f
    rw [List.countP_cons, List.countP_cons, eqU_of r f.1, countP_eqU t f.2]
theorem mt_cnt (hK : X.K = K := by rfl) : MtR X "list.count" (uCnt K) := by
  subst hK
  intro pins s σ H x xs v us Q I rx rxs h
  obtain ⟨p, ys, y, rfl, rfl, hs, fy, fs, q⟩ := h
  cases rx
  obtain ⟨u, rfl, ru⟩ := rxs.one
  obtain ⟨its, rv, ⟨⟨cls, dd, data, sl⟩, n, ho, hc, hdn, hd⟩, hlen⟩ := I.list hs
  simp only at hc hd
  subst hc hd
  refine call_meets PySem.F.slot_list_count ⟨_, ho, rfl⟩ PySem.F.entry_list_count (PySem.F.args_list_count_2 _ _)
    (SeqAt.list_countAt p its.toArray n dd sl u (eqU y))
    ⟨ho, fun z hz => mem_eqAt ru fy rv fs z (by simpa using hz), .int _, H, I.tok _, ⟨s.toks, ?_⟩, q⟩
  show Value.int ((its.countP (eqU y) : Nat) : Int) s.toks = _
  rw [countP_eqU rv fs]
end
end RT

namespace RT
open PySem PySem.Spec PyProof.Rows L2
/-! ## 11. sorted of tuples, by their things from the first on -/
def LexV : List V → List V → Option Bool
  | [], [] => some false
  | [], _ :: _ => some true
  | _ :: _, [] => some false
  | .int i :: xs, .int j :: ys => if i = j then LexV xs ys else some (decide (i < j))
  | .str i :: xs, .str j :: ys => if i = j then LexV xs ys else some (decide (i.cps.toList < j.cps.toList))
  | .ref a :: xs, .ref b :: ys => if a = b then LexV xs ys else none
  | _ :: _, _ :: _ => none
section
variable {prog : Program} {w : World} {A : Around} {E : Value → Shared → Prop} {s : Shared} {Q : Bool → Shared → Prop}
theorem oneLt_strs (c : Bool) {p q : Str} {t u : Tok} (h : Q (decide (p.cps.toList < q.cps.toList)) s) : wpAny (model prog w) A (oneLt' c (.str p t) (.str q u)) Q E s := by
  cases c with
  | true => exact oneLt_str h
  | false => exact PySem.W.kat_one _ _ (PyProof.Rows.lt_str (Q := PySem.W.BoolBack Q) h)
theorem lexV_at {b : Bool} : ∀ {xs ys : List V} {us ws : List Value} (i : Nat) {r fin : Bool}, Vals xs us → Vals ys ws → LexV xs ys = some r → fin = decide (us.length < ws.length) → Q r s → PySem.W.KatLex prog w A b fin Q (us.zip ws) i s
  | [], [], _, _, i, r, fin, .nil, .nil, h, hf, q => by
    cases h
    subst hf
    exact PySem.W.kat_nil q
  | [], _ :: _, _, _, i, r, fin, .nil, .cons _ _, h, hf, q => by
    cases h
    subst hf
    rw [List.zip_nil_left]
    refine PySem.W.kat_nil ?_
    rw [show decide (([] : List Value).length < _) = true from by simp]
    exact q
  | _ :: _, [], _, _, i, r, fin, .cons _ _, .nil, h, hf, q => by
    cases h
    subst hf
    rw [List.zip_nil_right]
    refine PySem.W.kat_nil ?_
    rw [show decide (_ < ([] : List Value).length) = false from by simp]
    exact q
  | x :: xs, y :: ys, u :: us, v :: ws, i, r, fin, .cons rx tx, .cons ry ty, h, hf, q => by
    have hf' : fin = decide (us.length < ws.length) := by rw [hf]; simp
    rw [List.zip_cons_cons]
    cases x <;> cases y
    case int.int p p' =>
      obtain ⟨t, rfl⟩ := rx
      obtain ⟨t', rfl⟩ := ry
      refine PySem.W.kat_cons (SeqAt.EqAt.int_int p t p' t' prog w _ _ ?_)
      simp only [LexV] at h
      refine PySem.W.kat_go (fun e => ?_) (fun e => ?_)
      · have : p = p' := by simpa using e
        rw [if_pos this] at h
        exact PySem.W.kat_yes (lexV_at (i + 1) tx ty h hf' q)
      · have : ¬ p = p' := by simpa using e
        rw [if_neg this] at h
        cases h
        exact PySem.W.kat_no (TS.oneLt_ints _ q)
    case str.str p p' =>
      obtain ⟨t, rfl⟩ := rx
      obtain ⟨t', rfl⟩ := ry
      refine PySem.W.kat_cons (SeqAt.EqAt.str_str p t p' t' prog w _ _ ?_)
      simp only [LexV] at h
      refine PySem.W.kat_go (fun e => ?_) (fun e => ?_)
      · have : p = p' := by simpa using e
        rw [if_pos this] at h
        exact PySem.W.kat_yes (lexV_at (i + 1) tx ty h hf' q)
      · have : ¬ p = p' := by simpa using e
        rw [if_neg this] at h
        cases h
        exact PySem.W.kat_no (oneLt_strs _ q)
    case ref.ref p p' =>
      obtain rfl : u = Value.ref p := rx
      obtain rfl : v = Value.ref p' := ry
      simp only [LexV] at h
      by_cases e : p = p'
      · subst e
        rw [if_pos rfl] at h
        refine PySem.W.kat_cons (SeqAt.EqAt.same _ prog w _ _ ?_)
        exact PySem.W.kat_yes (lexV_at (i + 1) tx ty h hf' q)
      · rw [if_neg e] at h
        cases h
    all_goals cases h
end
theorem swo_bk {lt : V → V → Bool} (O : SrtO.Swo lt) : SrtO.Swo fun v u : Value => lt (bkV v) (bkV u) :=
  ⟨fun x y => O.asym _ _, fun x y z => O.tr _ _ _⟩
/-- sorted of tuples of ints and texts (and of what is one and the same), by their things from the first on -/
def rSortC (K : PySem.W.Frag) : List V → Hp → VK → Prop := fun vs H Q => ∃ (a : Addr) (xs : List V) (k : V → List V) (lt : V → V → Bool), vs = [.ref a] ∧ SqL K H a xs ∧ (∀ x ∈ xs, ∃ t, x = .ref t ∧ SqT K H t (k x)) ∧
  ((∀ x ∈ xs, ∃ z r, k x = .str z :: r) ∨ (∀ x ∈ xs, ∃ z r, k x = .int z :: r)) ∧ SrtO.Swo lt ∧ (∀ x ∈ xs, ∀ y ∈ xs, LexV (k x) (k y) = some (lt x y)) ∧
  ∀ ys p, SrtO.Srtd lt ys → ys.Perm xs → H p = none → Q (.ref p) (upd H p (.lst ys))
def TupAt (h : Heap) (v : Value) (zs : List V) : Prop := ∃ (a : Addr) (its : List Value), v = .ref a ∧ Vals zs its ∧ IsTup h a its.toArray
theorem TupAt.keeps {h h' : Heap} {v : Value} {zs : List V} (p : TupAt h v zs) (k : ∀ b o, h.get? b = some o → o.cls = .type "tuple" → h'.get? b = some o) : TupAt h' v zs := by
  obtain ⟨a, its, rfl, r, o, ho, hc, n, hd⟩ := p
  exact ⟨a, its, rfl, r, o, k a o ho hc, hc, n, hd⟩
theorem firstsC {h : Heap} {f : V → Prop} : ∀ {vs : List Value} {k : Value → List V}, (∀ v ∈ vs, TupAt h v (k v) ∧ ∃ z r, f z ∧ k v = z :: r) →
    ∃ fs : List Value, PySem.W.KatTups h vs fs ∧ fs.length = vs.length ∧ ∀ u ∈ fs, ∃ z, f z ∧ RelV z u
  | [], _, _ => ⟨[], PySem.W.KatTups.nil, rfl, fun _ hm => by simp at hm⟩
  | v :: vs, k, hp => by
    obtain ⟨fs, h1, h2, h3⟩ := firstsC (vs := vs) (k := k) fun v' hm => hp v' (List.mem_cons_of_mem _ hm)
    obtain ⟨⟨a, its, e, r, o, ho, hc, n, hd⟩, z, zs, hz, ek⟩ := hp v (List.mem_cons_self ..)
    subst e
    rw [ek] at r
    cases r with
    | @cons _ u _ us r0 rs =>
      refine ⟨u :: fs, PySem.W.KatTups.cons ho hc hd rfl h1, by rw [List.length_cons, List.length_cons, h2], fun x hm => ?_⟩
      rcases List.mem_cons.mp hm with rfl | hm
      · exact ⟨z, hz, r0⟩
      · exact h3 x hm
theorem cr_sortedC {X : Cx} {K : PySem.W.Frag} (hK : X.K = K := by rfl) : CallR X (.builtin "sorted") (rSortC K) := by
  subst hK
  intro pins s σ H vs us Q I r h
  obtain ⟨a, xs, k, lt, rfl, hs, hx, hf, O, hlt, q⟩ := h
  obtain ⟨its, rv, hl, hz⟩ := I.list hs
  rw [Vals.ref1 r]
  obtain ⟨e1, e2⟩ := bkV_refs rv fun x m => by
    obtain ⟨t, e, _⟩ := hx x m
    exact ⟨t, e⟩
  have hmem : ∀ v ∈ its, bkV v ∈ xs := fun v hv => by rw [e1]; exact List.mem_map.mpr ⟨_, hv, rfl⟩
  have hT : ∀ v ∈ its, TupAt s.heap v (k (bkV v)) := fun v hv => by
    obtain ⟨t, rfl⟩ := e2 v hv
    obtain ⟨t', et, ht⟩ := hx _ (hmem _ hv)
    have et' : t = t' := by
      have : (V.ref t : V) = V.ref t' := et
      injection this
    subst et'
    obtain ⟨ts, rt, p, _⟩ := I.tuple ht
    exact ⟨t, ts, rfl, rt, p⟩
  refine SrtO.sorted_ord (swo_bk O) hl.isList (by rw [← rv.length]; exact hz) (fun h2 h₁ a' ha kk => ?_) fun out h1 h2 => ?_
  · intro h' keep
    have keep2 : ∀ b o, s.heap.get? b = some o → o.cls = .type "tuple" → h'.get? b = some o := fun b o e c => by
      have := kk b o e
      exact keep b o this.1 this.2
    have hT' : ∀ v ∈ its, TupAt h' v (k (bkV v)) := fun v hv => (hT v hv).keeps keep2
    have hc : SrtO.Cmp X.prog X.w X.A.in1.in1 { s with heap := h' } (tuples' true) (fun p => p.1 ∈ its) (SrtO.lt2 fun v u : Value => lt (bkV v) (bkV u)) := by
      intro p q hp hq
      obtain ⟨t, ts, et, rt, o, ho, hc, n, hd⟩ := hT' _ hp
      obtain ⟨t2, ts2, et2, rt2, o2, ho2, hc2, n2, hd2⟩ := hT' _ hq
      have hl := hlt _ (hmem _ hp) _ (hmem _ hq)
      show wpAny _ _ (keyLt' (tuples' true) p.1 q.1) (fun r s' => s' = _ ∧ r = lt (bkV p.1) (bkV q.1)) (fun _ _ => False) _
      generalize lt (bkV p.1) (bkV q.1) = b at hl
      rw [et, et2]
      refine PySem.W.kat_lt ho hd ho2 hd2 ?_
      exact lexV_at 0 rt rt2 hl (by simp) ⟨rfl, rfl⟩
    refine ⟨tuples' true, fun Q' E' hq => ?_, hc⟩
    rcases hf with hf | hf
    · obtain ⟨fs, g1, g2, g3⟩ := firstsC (f := fun z => ∃ y, z = .str y) (k := fun v => k (bkV v)) fun v hv => ⟨hT' v hv, by
        obtain ⟨z, r, e⟩ := hf _ (hmem _ hv)
        exact ⟨_, _, ⟨z, rfl⟩, e⟩⟩
      refine PySem.W.kat_kind (T := .type "str") g1 (by omega) (fun f hm => ?_) (by rfl) ?_
      · obtain ⟨z, ⟨y, rfl⟩, t, rfl⟩ := g3 f hm
        exact PySem.W.Looks.now
      · have e : (Value.type "str" != Value.type "tuple") = true := by first | decide +kernel | rfl | decide
        rw [e]
        exact hq
    · obtain ⟨fs, g1, g2, g3⟩ := firstsC (f := fun z => ∃ y, z = .int y) (k := fun v => k (bkV v)) fun v hv => ⟨hT' v hv, by
        obtain ⟨z, r, e⟩ := hf _ (hmem _ hv)
        exact ⟨_, _, ⟨z, rfl⟩, e⟩⟩
      refine PySem.W.kat_kind (T := .type "int") g1 (by omega) (fun f hm => ?_) (by rfl) ?_
      · obtain ⟨z, ⟨y, rfl⟩, t, rfl⟩ := g3 f hm
        exact PySem.W.Looks.now
      · have e : (Value.type "int" != Value.type "tuple") = true := by first | decide +kernel | rfl | decide
        rw [e]
        exact hq
  · obtain ⟨ep, he'⟩ := PyProof.Rows.sortedAll_at s.heap its out.toArray
    have hp : (out.map bkV).Perm xs := by
      rw [e1]
      exact h2.perm.map bkV
    have h3 : ∀ u ∈ out, ∃ a, u = Value.ref a := fun u hu => e2 u (h2.perm.mem_iff.mp hu)
    have hlen : (out.map bkV).length ≤ sizeLine := by
      rw [hp.length_eq]
      exact hz
    refine ⟨.ref _, upd H (s.heap.objs.size + 1) (.lst (out.map bkV)), I.laid (t' := s.toks) (fun _ _ => PyProof.Rows.sortedAll_old) (Nat.le_succ _) ⟨hlen, out, ep, bkV_vals h3, he'⟩, rfl, q _ _ ?_ hp (I.hok.fresh (Nat.le_succ _))⟩
    exact List.pairwise_map.mpr h1
/-! keys: ints and texts -/
def keyLt : Key → Key → Bool
  | .inl i, .inl j => decide (i < j)
  | .inl _, .inr _ => true
  | .inr _, .inl _ => false
  | .inr x, .inr y => decide (x.cps.toList < y.cps.toList)
def lexK : List Key → List Key → Bool
  | [], [] => false
  | [], _ :: _ => true
  | _ :: _, [] => false
  | x :: xs, y :: ys => if x = y then lexK xs ys else keyLt x y
/-- where they differ first stand things of one kind -/
def likeK : List Key → List Key → Bool
  | .inl i :: xs, .inl j :: ys => if i = j then likeK xs ys else true
  | .inr i :: xs, .inr j :: ys => if i = j then likeK xs ys else true
  | _ :: _, _ :: _ => false
  | _, _ => true
theorem lexV_keys : ∀ {ks ls : List Key}, likeK ks ls = true → LexV (ks.map kV) (ls.map kV) = some (lexK ks ls)
  | [], [], _ => rfl
  | [], _ :: _, _ => rfl
  | _ :: _, [], _ => by rename_i x xs _; cases x <;> rfl
  | .inl i :: xs, .inl j :: ys, h => by
    by_cases e : i = j
    · subst e
      have h' : likeK xs ys = true := by simpa [likeK] using h
      simp [LexV, lexK, kV, lexV_keys h']
    · simp [LexV, lexK, kV, keyLt, e]
  | .inr i :: xs, .inr j :: ys, h => by
    by_cases e : i = j
    · subst e
      have h' : likeK xs ys = true := by simpa [likeK] using h
      simp [LexV, lexK, kV, lexV_keys h']
    · simp [LexV, lexK, kV, keyLt, e]
  | .inl i :: xs, .inr j :: ys, h => by simp [likeK] at h
  | .inr i :: xs, .inl j :: ys, h => by simp [likeK] at h
theorem str_lt_tri {x y : Str} (h : x ≠ y) : x.cps.toList < y.cps.toList ∨ y.cps.toList < x.cps.toList := by
  have h' : x.cps.toList ≠ y.cps.toList := fun e => h (by cases x; cases y; simp only [Str.mk.injEq]; exact Array.toList_inj.mp e)
  rcases Nat.lt_or_ge 0 1 with _ | _
  · rcases Classical.em (x.cps.toList < y.cps.toList) with c | c
    · exact .inl c
    · rcases Classical.em (y.cps.toList < x.cps.toList) with d | d
      · exact .inr d
      · exact absurd (List.le_antisymm (List.not_lt.mp d) (List.not_lt.mp c)) h'
  · omega
theorem keyLt_irrefl (x : Key) : keyLt x x = false := by
  cases x with
  | inl i => simp [keyLt]
  | inr z => simp [keyLt, List.lt_irrefl]
theorem keyLt_tri {x y : Key} (h : x ≠ y) : keyLt x y = true ∨ keyLt y x = true := by
  cases x <;> cases y
  · rename_i i j
    have : i ≠ j := fun e => h (by rw [e])
    simp only [keyLt, decide_eq_true_eq]; omega
  · exact .inl rfl
  · exact .inr rfl
  · rename_i i j
    have : i ≠ j := fun e => h (by rw [e])
    simp only [keyLt, decide_eq_true_eq]; exact str_lt_tri this
theorem keyLt_trans {x y z : Key} (h1 : keyLt x y = true) (h2 : keyLt y z = true) : keyLt x z = true := by
  cases x <;> cases y <;> cases z <;> simp_all only [keyLt, decide_eq_true_eq] <;> first | omega | exact List.lt_trans h1 h2 | cases h1 | cases h2
theorem keyLt_asym {x y : Key} (h1 : keyLt x y = true) : keyLt y x = false := by
  cases h : keyLt y x with
  | false => rfl
  | true => have := keyLt_trans h1 h; rw [keyLt_irrefl] at this; cases this
theorem lexK_irrefl : ∀ ks : List Key, lexK ks ks = false
  | [] => rfl
  | x :: xs => by simp [lexK, lexK_irrefl xs]
theorem lexK_tri : ∀ {ks ls : List Key}, ks ≠ ls → lexK ks ls = true ∨ lexK ls ks = true
  | [], [], h => absurd rfl h
  | [], _ :: _, _ => .inl rfl
  | _ :: _, [], _ => .inr rfl
  | x :: xs, y :: ys, h => by
    by_cases e : x = y
    · subst e
      have : xs ≠ ys := fun z => h (by rw [z])
      simpa [lexK] using lexK_tri this
    · have e' : ¬ y = x := fun z => e z.symm
      simpa [lexK, e, e'] using keyLt_tri e
theorem lexK_trans : ∀ {ks ls ms : List Key}, lexK ks ls = true → lexK ls ms = true → lexK ks ms = true
  | [], [], _, h, _ => by cases h
  | _ :: _, [], _, h, _ => by cases h
  | _, _ :: _, [], _, h => by cases h
  | [], _ :: _, _ :: _, _, _ => rfl
  | x :: xs, y :: ys, z :: zs, h1, h2 => by
    simp only [lexK] at h1 h2 ⊢
    by_cases e1 : x = y
    · subst e1
      rw [if_pos rfl] at h1
      by_cases e2 : x = z
      · subst e2
        rw [if_pos rfl] at h2 ⊢
        exact lexK_trans h1 h2
      · rw [if_neg e2] at h2 ⊢
        exact h2
    · rw [if_neg e1] at h1
      by_cases e2 : y = z
      · subst e2
        rw [if_neg e1]
        exact h1
      · rw [if_neg e2] at h2
        have h3 := keyLt_trans h1 h2
        by_cases e3 : x = z
        · subst e3; rw [keyLt_irrefl] at h3; cases h3
        · rw [if_neg e3]; exact h3
theorem lexK_asym {ks ls : List Key} (h : lexK ks ls = true) : lexK ls ks = false := by
  cases h' : lexK ls ks with
  | false => rfl
  | true => have := lexK_trans h h'; rw [lexK_irrefl] at this; cases this
theorem swo_lexK {α : Type} (f : α → List Key) : SrtO.Swo fun x y => lexK (f x) (f y) := by
  refine ⟨fun x y h => lexK_asym h, fun x y z h1 h2 => ?_⟩
  cases h : lexK (f z) (f x) with
  | false => rfl
  | true =>
    by_cases e : f x = f y
    · rw [e] at h; rw [h] at h2; cases h2
    · rcases lexK_tri e with c | c
      · rw [lexK_trans h c] at h2; cases h2
      · rw [c] at h1; cases h1
end RT

/-! ## 13. dicts with keys that are tuples: == -/
namespace PySem.W
open PySem PySem.Calls PyProof.Rows PySem.Spec
section
variable {prog : Program} {w : World} {K : Type} [DecidableEq K] {knd : HeapKind prog w K} {A : Around} {E : Value → Shared → Prop} {s : Shared}
theorem rt_samePairs {nm : String} {a b : Addr} {ka kb : List (K × Addr × Value)} {Q : Bool → Shared → Prop} (ha : (a == sysModules) = false) (hb : (b == sysModules) = false) (hu : knd.room A)
    (da : s.heap.DictOfH knd a ka) (db : s.heap.DictOfH knd b kb) (hl : ka.length = kb.length) (hits : ∀ x ∈ ka, ∃ p, atKey kb x.1 = some p ∧ SeqAt.EqAt A s x.2.2 p.2 true) (h : Q true s) :
    wpAny (model prog w) A (Builtin.Dict.samePairs nm a b) Q E s := by
  obtain ⟨oa, es, ep, hoa, _, hda, hka, hia, hna⟩ := da
  obtain ⟨ob, es', ep', hob, _, hdb, hkb, hib, hnb⟩ := db
  have hla : es.size = ka.length := size_of_entries hka
  have hlb : es'.size = kb.length := size_of_entries hkb
  unfold Builtin.Dict.samePairs Builtin.Dict.showsAll
  rw [if_neg (show ¬ (a == sysModules) = true by rw [ha]; exact Bool.false_ne_true), if_neg (show ¬ (b == sysModules) = true by rw [hb]; exact Bool.false_ne_true)]
  refine wpAny_bind (wpAny_pure (wpAny_bind (wpAny_pure ?_)))
  refine wpAny_bind (wpAny_dictEntries hoa hda ?_)
  dsimp only
  refine wpAny_bind (wpAny_dictEntries hob hdb ?_)
  have hsz : es.size = es'.size := by omega
  rw [if_neg (by rw [hsz]; simp)]
  refine wpAny_bind (wpAny_dictEpoch hoa hda ?_)
  refine wpAny_bind ?_
  rw [Std.Legacy.Range.forIn_eq_forIn_range']
  simp only [Std.Legacy.Range.size, Nat.sub_zero, Nat.add_sub_cancel, Nat.div_one]
  refine wpAny_forIn_list _
    (fun rest q s' => s' = s ∧ q = (none, ()) ∧ ∃ i, rest = List.range' i (es.size - i) ∧ i ≤ es.size)
    _ ?_ ?_ _ _ ⟨rfl, rfl, 0, by simp, Nat.zero_le _⟩
  · rintro x rest q s' ⟨rfl, rfl, i, hr, hi⟩
    have hlt : i < es.size := by
      rcases Nat.lt_or_ge i es.size with h | h
      · exact h
      · rw [Nat.sub_eq_zero_of_le h] at hr; simp at hr
    obtain ⟨rfl, hrest⟩ : x = i ∧ rest = List.range' (i + 1) (es.size - (i + 1)) := by
      have e : es.size - i = (es.size - (i + 1)) + 1 := by omega
      rw [e, List.range'_succ] at hr
      injection hr with h1 h2
      exact ⟨h1, h2⟩
    refine wpAny_bind (wpAny_dictEntries hoa hda ?_)
    have hlt' : x < ka.length := by rw [← hla]; exact hlt
    rw [entry_at hka x, List.getElem?_eq_getElem hlt']
    obtain ⟨k, c, v, hkv⟩ : ∃ k c v, ka[x] = (k, c, v) := ⟨_, _, _, rfl⟩
    rw [hkv]
    have hmem : (k, c, v) ∈ ka := by rw [← hkv]; exact List.getElem_mem hlt'
    have hkey := hia _ hmem
    obtain ⟨p, hp, he⟩ := hits _ hmem
    show wpAny _ _ (holding [.ref c, v] _ >>= _) _ _ _
    refine wpAny_bind (wpAny_holding (wpAny_bind (wpAny_dictFind_heap hu hkey hob hdb hkb hib hnb (fun hno => ?_) (fun j p' hj => ?_))))
    · rw [atKey_none_of_get hno] at hp
      cases hp
    · have hp' := atKey_of_get hnb hj
      have ep' : p' = p := Option.some.inj (hp'.symm.trans hp)
      subst ep'
      refine wpAny_bind (wpAny_dictEntries hob hdb ?_)
      rw [entry_at hkb j, hj]
      refine wpAny_holding (he prog w _ _ ?_)
      show wpAny _ _ (if (!true) = true then _ else _) _ _ _
      rw [if_neg (by decide)]
      refine wpAny_bind (wpAny_dictEpoch hoa hda ?_)
      rw [if_neg (by simp)]
      exact wpAny_pure ⟨rfl, rfl, x + 1, hrest, hlt⟩
  · rintro q s' ⟨rfl, rfl, i, hr, hi⟩
    exact wpAny_pure h
theorem rt_eqH {a b : Addr} {ka kb : List (K × Addr × Value)} {Q : Value → Shared → Prop} (ha : (a == sysModules) = false) (hb : (b == sysModules) = false) (hr : knd.room A.in1)
    (da : s.heap.DictOfH knd a ka) (db : s.heap.DictOfH knd b kb) (hu : A.units < cLine) (hl : ka.length = kb.length) (hits : ∀ x ∈ ka, ∃ p, atKey kb x.1 = some p ∧ SeqAt.EqAt A.in1 s x.2.2 p.2 true) (h : Q (.bool true) s) :
    wpAny (model prog w) A (compareOp .Eq (.ref a) (.ref b)) Q E s := by
  refine wpAny_richCompare_same_room (op := .Eq) da.typeIs db.typeIs PySem.F.slot_dict_eq (wpAny_call_entry PySem.F.slot_dict_eq da.typeIs PySem.F.entry_dict_eq ?_ (PySem.F.args_dict_eq_2 _ _)) hu
  show wpAny _ _ (Builtin.Dict.dictSlotArgs "__eq__" ⟨[.ref a, .ref b], []⟩ >>= _) _ _ s
  refine wpAny_bind ?_
  unfold Builtin.Dict.dictSlotArgs
  refine wpAny_bind (wpAny_notOrdered_dict da.typeIs ?_)
  show wpAny _ _ (pure (Value.ref a, Value.ref b)) _ _ s
  refine wpAny_pure ?_
  refine wpAny_bind (wpAny_isInstance (T := "dict") db.typeIs PySem.F.sub_dict_dict ?_)
  simp only [Bool.not_true, Bool.false_eq_true, if_false]
  refine wpAny_bind (wpAny_pure (wpAny_bind (wpAny_pure ?_)))
  refine wpAny_bind (rt_samePairs ha hb hr da db hl hits ?_)
  refine wpAny_pure ⟨_, rfl, ?_, ?_⟩
  · exact fun x => nomatch x
  · simpa using h
theorem rt_neH {a b : Addr} {ka kb : List (K × Addr × Value)} {Q : Value → Shared → Prop} (ha : (a == sysModules) = false) (hb : (b == sysModules) = false) (hr : knd.room A.in1)
    (da : s.heap.DictOfH knd a ka) (db : s.heap.DictOfH knd b kb) (hu : A.units < cLine) (hl : ka.length = kb.length) (hits : ∀ x ∈ ka, ∃ p, atKey kb x.1 = some p ∧ SeqAt.EqAt A.in1 s x.2.2 p.2 true) (h : Q (.bool false) s) :
    wpAny (model prog w) A (compareOp .NotEq (.ref a) (.ref b)) Q E s := by
  refine wpAny_richCompare_same_room (op := .NotEq) da.typeIs db.typeIs PySem.F.slot_dict_ne (wpAny_call_entry PySem.F.slot_dict_ne da.typeIs PySem.F.entry_dict_ne ?_ (PySem.F.args_dict_ne_2 _ _)) hu
  show wpAny _ _ (Builtin.Dict.dictSlotArgs "__ne__" ⟨[.ref a, .ref b], []⟩ >>= _) _ _ s
  refine wpAny_bind ?_
  unfold Builtin.Dict.dictSlotArgs
  refine wpAny_bind (wpAny_notOrdered_dict da.typeIs ?_)
  show wpAny _ _ (pure (Value.ref a, Value.ref b)) _ _ s
  refine wpAny_pure ?_
  refine wpAny_bind (wpAny_isInstance (T := "dict") db.typeIs PySem.F.sub_dict_dict ?_)
  simp only [Bool.not_true, Bool.false_eq_true, if_false]
  refine wpAny_bind (wpAny_pure (wpAny_bind (wpAny_pure ?_)))
  refine wpAny_bind (rt_samePairs ha hb hr da db hl hits ?_)
  refine wpAny_pure ⟨_, rfl, ?_, ?_⟩
  · exact fun x => nomatch x
  · simpa using h
end
end PySem.W
namespace RT
open PySem PySem.Spec PyProof.Rows L2
def rEqT (neg : Bool) : R2 := fun x y H Q => ∃ a b ks ls, x = .ref a ∧ y = .ref b ∧ H a = some (.dT ks) ∧ H b = some (.dT ls) ∧ ks.length = ls.length ∧ (∀ p ∈ ks, valV ls p.1 = some p.2 ∧ flatB p.2 = true) ∧ Q (.bl (!neg)) H
theorem hitsT {A : Around} {s : Shared} {H : Hp} {ks ls : List (List Key × V)} {ya yb : List (List Key × Addr × Value)} (rb : L2.KT H ls yb) (ra : L2.KT H ks ya) :
    (∀ p ∈ ks, valV ls p.1 = some p.2 ∧ flatB p.2 = true) → ∀ x ∈ ya, ∃ p, atKey yb x.1 = some p ∧ SeqAt.EqAt A s x.2.2 p.2 true := by
  unfold L2.KT at ra
  induction ra with
  | nil => intro _ x hx; cases hx
  | @cons p q ps qs h t ih =>
    intro hp x hx
    obtain ⟨h1, _, h2⟩ := h
    rcases List.mem_cons.mp hx with rfl | hx
    · obtain ⟨e, f⟩ := hp p List.mem_cons_self
      have rr : RelO (some p.2) ((atKey yb p.1).map (·.2)) := by rw [← e]; exact rb.val p.1
      obtain ⟨y, hy, ry⟩ := rr.some_of
      obtain ⟨p', hp', e'⟩ := Option.map_eq_some_iff.mp hy
      rw [← h1]
      refine ⟨p', hp', ?_⟩
      rw [e']
      exact eqAt_same h2 ry f
    · exact ih (fun p' hm => hp p' (List.mem_cons_of_mem _ hm)) x hx
theorem KTlen {H : Hp} {ks : List (List Key × V)} {ya : List (List Key × Addr × Value)} (ra : L2.KT H ks ya) : ks.length = ya.length := Paired.length ra
theorem op_eqT {X : Cx} (hu : X.A.units + 1 < cLine) : OpR X (compareOp .Eq) (rEqT false) := by
  intro pins s σ H x y v u Q I rx ry h
  obtain ⟨a, b, ks, ls, rfl, rfl, ea, eb, hlen, hp, q⟩ := h
  obtain rfl : v = Value.ref a := rx
  obtain rfl : u = Value.ref b := ry
  obtain ⟨_, za, ya, ra, da⟩ := dt_of I.hok ea
  obtain ⟨_, zb, yb, rb, db⟩ := dt_of I.hok eb
  exact PySem.W.rt_eqH za zb (tupleKind_room_in1 hu) da db (by omega) (by rw [← KTlen ra, ← KTlen rb]; exact hlen) (hitsT rb ra hp) (fin_bl I q rfl)
theorem op_neT {X : Cx} (hu : X.A.units + 1 < cLine) : OpR X (compareOp .NotEq) (rEqT true) := by
  intro pins s σ H x y v u Q I rx ry h
  obtain ⟨a, b, ks, ls, rfl, rfl, ea, eb, hlen, hp, q⟩ := h
  obtain rfl : v = Value.ref a := rx
  obtain rfl : u = Value.ref b := ry
  obtain ⟨_, za, ya, ra, da⟩ := dt_of I.hok ea
  obtain ⟨_, zb, yb, rb, db⟩ := dt_of I.hok eb
  exact PySem.W.rt_neH za zb (tupleKind_room_in1 hu) da db (by omega) (by rw [← KTlen ra, ← KTlen rb]; exact hlen) (hitsT rb ra hp) (fin_bl I q rfl)
end RT

namespace RT
open PySem PySem.Spec PyProof.Rows L2
/-! ## 4. defs of the text, by name, with their promises -/
structure DefAt (K : PySem.W.Frag) (mg : Str → Option Value) (x : Str) (st : Stmt) : Prop where
  ex : ∃ f fd, mg x = some (.ref f) ∧ Fun K x x st f fd
structure Own (P : Program) (w : World) (K : PySem.W.Frag) (mg : Str → Option Value) (base : Heap) (x : Str) (k : Nat) (ps : List Str) (sp : Sp) : Prop where
  ex : ∃ f fd, mg x = some (.ref f) ∧ PySem.W.keepIn K (.ref f) = true ∧ Binds K fd ps [] ∧ FnOk P w K mg base (L2N.CX P w) k f fd ps sp
structure OwnP (P : Program) (w : World) (K : PySem.W.Frag) (mg : Str → Option Value) (base : Heap) (x : Str) (k : Nat) (ps : List Str) (sp : SpP) : Prop where
  ex : ∃ f fd, mg x = some (.ref f) ∧ PySem.W.keepIn K (.ref f) = true ∧ Binds K fd ps [] ∧ FnP P w K mg base (L2N.CX P w) k f fd ps sp
section
variable {P : Program} {w : World} {K : PySem.W.Frag} {mg : Str → Option Value} {base : Heap}
abbrev BindW (st : Stmt) (x : Str) (ps : List Str) : Prop := ∀ (kV doc pm : Value) (an : Option Addr) (cdv ct : Value) (us : List Value),
  us.length = ps.length → bindArgs (PySem.W.fnOf x x (defArgs st) (defBody st) (defScope st) .none kV doc pm an cdv ct) ⟨us, []⟩ = pure (ps.zip us)
def FnW (P : Program) (w : World) (K : PySem.W.Frag) (mg : Str → Option Value) (base : Heap) (x : Str) (st : Stmt) (k : Nat) (ps : List Str) (sp : Sp) : Prop :=
  ∀ f fd, Fun K x x st f fd → FnOk P w K mg base (L2N.CX P w) k f fd ps sp
theorem fnW_of {x : Str} {st : Stmt} {N ps : List Str} {k : Nat} {sp : Sp}
    (S : FnScope N ps (defScope st)) (len : ∀ vs H Q E, sp vs H Q E → vs.length = ps.length)
    (hbody : ∀ (f : Addr) (cdv : Value) (A : Around) (outer : List Env) (s : Shared) (H : Hp) (vs : List V) (Q : VK) (E : XK),
      Room k (A.deeper (envOfC x (defScope st) s.heap.objs.size f cdv)) → sp vs H Q E →
      ∃ t, PSs (cxOf (L2N.CX P w) P w K mg base N x (defScope st) f cdv A outer s H E) (defBody st) t ∧
        t ⟨fun _ H' => Q .non H', Q, fun _ _ => False, fun _ _ => False⟩ (L2.start N vs) H) :
    FnW P w K mg base x st (k + 1) ps sp := fun f fd F => okN F S len (hbody f)
theorem own_of {x : Str} {st : Stmt} {ps : List Str} {k : Nat} {sp : Sp} (D : DefAt K mg x st) (hb : BindW st x ps)
    (h : FnW P w K mg base x st k ps sp) : Own P w K mg base x k ps sp := by
  obtain ⟨f, fd, hm, F⟩ := D.ex
  exact ⟨f, fd, hm, F.kp, F.binds hb, h f fd F⟩
theorem law_F {st : Stmt} {x : Str} {k : Nat} {sp : Sp} {fa : Addr} (D : DefAt K mg "law" st) (hb : BindW st "law" [x])
    (h : ∀ base : Heap, K.In base → base.Ns mainGlobals mg → FnW P w K mg base "law" st k [x] sp) (hfa : mg "law" = some (.ref fa)) :
    ∃ fd : FuncData, (∀ (s : Shared) (u : Value), BindsTo s fd ⟨[u], []⟩ [(x, u)]) ∧
      ∀ base : Heap, K.In base → base.Ns mainGlobals mg → FnOk P w K mg base (L2N.CX P w) k fa fd [x] sp := by
  obtain ⟨f, fd, hm, F⟩ := D.ex
  have e := hfa.symm.trans hm
  cases e
  refine ⟨fd, fun s u => ?_, fun base h1 h2 => h base h1 h2 _ _ F⟩
  obtain ⟨oc, od, kV, doc, pm, an, cdv, ct, osl, rfl, lk, hcd⟩ := F.ex
  exact .of_eq (hb kV doc pm an cdv ct [u] rfl)
theorem noneN {P : Program} {w : World} {H : Hp} {s : Shared} {e : Value} {s' : Shared} (h : L2N.CX P w [] H s (fun _ _ _ => False) e s') : False := by
  obtain ⟨_, _, _, _, _, _, _, _, _, _, _, _, z⟩ := h
  exact z
theorem ownP_of {x : Str} {st : Stmt} {N ps : List Str} {k : Nat} {sp : SpP} (D : DefAt K mg x st) (hb : BindW st x ps)
    (S : FnScope N ps (defScope st)) (len : ∀ a c d vs H Q E, sp a c d vs H Q E → vs.length = ps.length)
    (hbody : ∀ (f : Addr) (cdv : Value) (A : Around) (outer : List Env) (s : Shared) (H : Hp) (vs : List V) (Q : VK) (E : XK) (e : Addr × Obj) (cls : Value) (d : Option Addr),
      L2H.Hot1 A e → Zc cls d e.2 → L2H.RoomH k (A.deeper (envOfC x (defScope st) s.heap.objs.size f cdv)) → sp e.1 cls d vs H Q E →
      ∃ t, PSs (L2H.cxH (L2N.CX P w) P w K mg base N x (defScope st) f cdv A outer s H E e) (defBody st) t ∧
        t ⟨fun _ H' => Q .non H', Q, fun _ _ => False, fun _ _ => False⟩ (L2.start N vs) H) :
    OwnP P w K mg base x (k + 1) ps sp := by
  obtain ⟨f, fd, hm, F⟩ := D.ex
  exact ⟨f, fd, hm, F.kp, F.binds hb, okP F S len (hbody f)⟩
end
section
variable {X : Cx} {j k : Nat} {ps : List Str} {sp : Sp} {E : L2.St → XK} {x : Str} {p pos : Pos} {e : Expr} {es : List Expr} {t : TA}
theorem pe_own (O : Own X.prog X.w X.K X.mg X.base x j ps sp) (hj : j ≤ k) (hr : Room k X.A) (hg : Gl X x)
    (hx : ∀ σ, PassesAt (L2N.CX X.prog X.w) X σ (E σ)) (ha : PA X (e :: es) t) (hdb : (x == ("__debug__" : Str)) = false := by decide)
    (he : starEach (e :: es) X.env = (false, eval e X.env) :: starEach es X.env := by rfl)
    (hpl : (backTo pos (starEach es X.env)).any (·.1) = false := by rfl) : PE X (.Call (.Name x p) (e :: es) [] pos) (tCallS sp E t) := by
  obtain ⟨f, fd, hm, hk, hb, F⟩ := O.ex
  exact pe_callS F (hr.mono hj) hg hm hk hb hx ha hdb he hpl
theorem pe_ownP {sp : SpP} {q : Addr × Obj} {cls : Value} {d : Option Addr} (O : OwnP X.prog X.w X.K X.mg X.base x j ps sp) (hj : j ≤ k) (hr : L2H.RoomH k X.A)
    (hot : L2H.Hot1 X.A q) (hp : q ∈ X.pn) (hz : Zc cls d q.2) (hg : Gl X x)
    (hx : ∀ σ, PassesAt (L2N.CX X.prog X.w) X σ (E σ)) (ha : PA X (e :: es) t) (hdb : (x == ("__debug__" : Str)) = false := by decide)
    (he : starEach (e :: es) X.env = (false, eval e X.env) :: starEach es X.env := by rfl)
    (hpl : (backTo pos (starEach es X.env)).any (·.1) = false := by rfl) : PE X (.Call (.Name x p) (e :: es) [] pos) (tCallS (sp q.1 cls d) E t) := by
  obtain ⟨f, fd, hm, hk, hb, F⟩ := O.ex
  exact pe_callP F (hr.mono hj) hot hp hz hg hm hk hb hx ha hdb he hpl
/-- a def without arguments -/
theorem pe_own0 (O : Own X.prog X.w X.K X.mg X.base x j ps sp) (hj : j ≤ k) (hr : Room k X.A) (hg : Gl X x)
    (hx : Passes (L2N.CX X.prog X.w) X E0) (hdb : (x == ("__debug__" : Str)) = false := by decide) : PE X (.Call (.Name x p) [] [] pos) (tCall sp [] E0 tNil) := by
  obtain ⟨f, fd, hm, hk, hb, F⟩ := O.ex
  exact pe_call0 F (hr.mono hj) hg hm hk hb .nil hx hdb
end
/-! ## 5. operators and looks that take what comes -/
def uAdd (K : PySem.W.Frag) : R2 := fun x y H Q =>
  (rI0 (fun i j => .int (i + j)) x y H Q ∨ ∃ i j, x = .str i ∧ y = .str j ∧ i.length + j.length ≤ sizeLine ∧ Q (.str (i ++ j)) H) ∨
  (rCat x y H Q ∨ rCatA K x y H Q)
def uMul : R2 := fun x y H Q => rI CMul (fun i j => .int (i * j)) x y H Q ∨ rRep x y H Q
def uEq (K : PySem.W.Frag) : R2 := fun x y H Q => (rEq x y H Q ∨ rEqD K x y H Q) ∨ (rEqDA x y H Q ∨ rEqT false x y H Q)
def uNe (K : PySem.W.Frag) : R2 := fun x y H Q => (rNe x y H Q ∨ rNeD K x y H Q) ∨ (rNeDA x y H Q ∨ rEqT true x y H Q)
def rIxD : R2 := fun x y H Q => ∃ a v, x = .ref a ∧ DGet H a y (some v) ∧ Q v H
def uIx (K : PySem.W.Frag) : R2 := fun x y H Q => rIx K x y H Q ∨ rIxD x y H Q
def rSetD : V → V → V → Hp → (Hp → Prop) → Prop := fun o i v H Q => ∃ a H', o = .ref a ∧ DPut H a i v H' ∧ Q H'
def uSet : V → V → V → Hp → (Hp → Prop) → Prop := fun o i v H Q => rSetL o i v H Q ∨ rSetD o i v H Q
def uSl (K : PySem.W.Frag) : V → Option Int → Option Int → Hp → VK → Prop := fun x lo hi H Q => rSlL K x lo hi H Q ∨ rSlA K x lo hi H Q
def uLen (K : PySem.W.Frag) : List V → Hp → VK → Prop := fun xs H Q =>
  ((∃ p ys, xs = [.ref p] ∧ (SqL K H p ys ∨ SqT K H p ys) ∧ Q (.int ys.length) H) ∨ ∃ z, xs = [.str z] ∧ z.length ≤ sizeLine ∧ Q (.int z.length) H) ∨
    ∃ a kvs, xs = [V.ref a] ∧ H a = some (.dK kvs) ∧ Q (.int kvs.length) H
def ItV (K : PySem.W.Frag) (x : V) (H1 : Hp) (R : It → Hp → Prop) : Prop :=
  (∃ a, x = .ref a ∧ (∃ xs, SqL K H1 a xs) ∧ R (Itl K a) H1) ∨ (∃ a, x = .ref a ∧ (∃ xs, SqT K H1 a xs) ∧ R (Itt K a) H1) ∨ ∃ z, x = .str z ∧ R (Its z) H1
def uIt (K : PySem.W.Frag) (tl : TE) : TI := fun σ H R => tl σ H fun x H1 => ItV K x H1 R
section
variable {X : Cx} {K : PySem.W.Frag} {a b : Expr} {ta tb : TE} {pos : Pos}
theorem op_uadd (hK : X.K = K := by rfl) : OpR X (binaryOp .Add) (uAdd K) := by
  subst hK
  exact OpR.or (OpR.or op_add op_add_str) (OpR.or op_cat op_catA)
theorem op_umul : OpR X (binaryOp .Mult) uMul := OpR.or op_mul op_rep
theorem op_ueq {k : Nat} (hr : L2H.RoomH k X.A) (hK : X.K = K := by rfl) : OpR X (compareOp .Eq) (uEq K) := by
  subst hK
  exact OpR.or (OpR.or op_eq (op_eqD (by have := hr.un; omega))) (OpR.or (op_eq_dictA (by have := hr.un; omega)) (op_eqT (by have := hr.un; omega)))
theorem op_une {k : Nat} (hr : L2H.RoomH k X.A) (hK : X.K = K := by rfl) : OpR X (compareOp .NotEq) (uNe K) := by
  subst hK
  exact OpR.or (OpR.or op_ne (op_neD (by have := hr.un; omega))) (OpR.or (op_ne_dictA (by have := hr.un; omega)) (op_neT (by have := hr.un; omega)))
theorem ix_dict (hu : X.A.units + 1 < cLine) : IxR X rIxD := by
  intro value slice pins s σ H x y v u Q I rx ry h hs
  obtain ⟨a, z, rfl, g, q⟩ := h
  obtain rfl : v = Value.ref a := rx
  have hT := dict_typeIs I g
  unfold subscriptTail
  refine wpAny_bind ?_
  rw [getitemInPython_of_ne hT.not_modules]
  refine wpAny_bind (wpAny_specialOf hT PySem.F.slot_dict_getitem.lookup ?_)
  have fin : wpAny (model X.prog X.w) X.A (subscripted slice false (.ref a) u)
      (fun r s₃ => wpAny (model X.prog X.w) X.A (letTemporaryGo value (.ref a) r >>= fun _ => pure r) (EP X pins σ Q) X.xe s₃) X.xe s := by
    rw [hs]
    refine wpAny_operating (d_getItem hu I g ry fun w' s3 I3 rw' => ?_)
    exact wpAny_bind (wpAny_letTemporaryGo (wpAny_pure ⟨z, H, I3, rw', q⟩))
  first
    | exact wpAny_pure (wpAny_bind fin)
    | exact wpAny_bind (wpAny_pure (wpAny_bind fin))
    | exact wpAny_bind fin
theorem units1 {k : Nat} {A : Around} (hr : L2H.RoomH k A) : A.units + 1 < cLine := by have := hr.un; omega
theorem ix_u {k : Nat} (hr : L2H.RoomH k X.A) (hK : X.K = K := by rfl) : IxR X (uIx K) := by
  subst hK
  exact IxR.or ix_seq (ix_dict (units1 hr))
theorem set_dict (hu : X.A.units + 1 < cLine) : PSet X rSetD := by
  intro pins s σ H o i v ov iv u Q I ro ri rv h
  obtain ⟨a, H', rfl, g, q⟩ := h
  obtain rfl : ov = Value.ref a := ro
  exact d_setItem hu I g ri rv fun s' I' => ⟨H', I', q⟩
theorem set_u {k : Nat} (hr : L2H.RoomH k X.A) : PSet X uSet := by
  intro pins s σ H o i v ov iv u Q I ro ri rv h
  rcases h with h | h
  · exact set_list pins s σ H o i v ov iv u Q I ro ri rv h
  · exact set_dict (units1 hr) pins s σ H o i v ov iv u Q I ro ri rv h
theorem sl_u (hK : X.K = K := by rfl) : SlR X (uSl K) := by
  subst hK
  exact SlR.or sl_list sl_tupA
theorem call_ulen (hK : X.K = K := by rfl) : CallR X (.builtin "len") (uLen K) := by
  subst hK
  exact CallR.or (CallR.or call_len_seq call_len_str) call_lenD
theorem pi_u {tg l : Expr} {tl : TE} (hl : PE X l tl) (hK : X.K = K := by rfl) : PI X tg l (uIt K tl) := by
  subst hK
  constructor
  intro pins s σ H R I h
  refine thn (hl.run pins s σ H _ I h) fun v s1 hh => ?_
  obtain ⟨x, H1, I1, r1, q1⟩ := hh
  rcases q1 with ⟨a, rfl, ⟨xs, hq⟩, q⟩ | ⟨a, rfl, ⟨xs, hq⟩, q⟩ | ⟨z, rfl, q⟩
  · cases r1
    obtain ⟨its, rv, p, hz⟩ := I1.list hq
    exact wpAny_pyIter_list p.isList (pi_one (tk := s1.toks) I1 _ (turn_list a _) ⟨_, Heap.get?_push_size _ rfl, rfl, rfl⟩ q)
  · cases r1
    obtain ⟨its, rv, p, hz⟩ := I1.tuple hq
    exact wpAny_pyIter_tuple (show s1.heap.IsTuple a its.toArray from p) (pi_one (tk := s1.toks) I1 _ (turn_tuple a _) ⟨_, Heap.get?_push_size _ rfl, rfl, rfl⟩ q)
  · obtain ⟨t, rfl⟩ := r1
    cases ha : z.cps.all (· < 128)
    · exact wpAny_pyIter_wide ha (pi_one (tk := s1.toks) I1 _ (turn_str _ z t "str_iterator" (.inr rfl)) ⟨_, Heap.get?_push_size _ rfl, rfl, rfl⟩ q)
    · exact wpAny_pyIter_ascii ha (pi_one (tk := s1.toks) I1 _ (turn_str _ z t "str_ascii_iterator" (.inl rfl)) ⟨_, Heap.get?_push_size _ rfl, rfl, rfl⟩ q)
def tTru (K : PySem.W.Frag) (ta : TE) : TT := fun σ H Q => ta σ H fun x H' => ∃ k, TruV K x H' k ∧ Q k H'
theorem pt_u (ha : PE X a ta) (he : ∀ whole, isTrue a X.env whole = (do let v ← whole; standAt a.pos; holding [v] (truthy v)) := by intro _; rfl) (hK : X.K = K := by rfl) :
    PT X a (tTru K ta) := by
  subst hK
  exact pt_truth ha he
end
end RT

namespace RT
open PySem PySem.Spec PyProof.Rows L2
/-! ## 6. own errors; constants; isinstance -/
structure ExcAt (K : PySem.W.Frag) (mg : Str → Option Value) (x : Str) : Type where
  C : Addr
  g : mg x = some (.ref C)
  ex : PySem.W.excIn K C [.type "ValueError", .type "Exception", .type "BaseException", .type "object"] "ValueError.__new__" = true
  kp : PySem.W.keepIn K (.ref C) = true
  sub : PySem.W.subIn K (.ref C) (.type "BaseException") = some true
  ty : PySem.W.typeIn K (.ref C) = some (.type "type")
  cc : ExcC K C
theorem ExcAt.raises {X : Cx} {K : PySem.W.Frag} {x : Str} {mg : Str → Option Value} (h : ExcAt K mg x) (hK : X.K = K := by rfl) : Raises X (.ref h.C) := by
  subst hK
  exact raises_own h.sub h.ty
def tRaise (W : L2.WX) (cls : Value) : TS := fun _ σ H => W cls none σ H
theorem ps_raiseU {X : Cx} {K : PySem.W.Frag} {x m : Str} {mg : Str → Option Value} {W : L2.WX} {j : Nat} {p p2 pos pos2 : Pos} (h : ExcAt K mg x) (tk : L2N.Takes X W) (hc : X.calm = true := by rfl) (hK : X.K = K := by rfl) (hm : X.mg = mg := by rfl) (hg : Gl X x := by rfl)
    (hdb : (x == ("__debug__" : Str)) = false := by decide) : PS X (.Raise (some (.Call (.Name x p) [.Constant (.str m) j p2] [] pos)) none pos2) (tRaise W (.ref h.C)) := by
  subst hK hm
  exact L2N.ps_raise hc tk (L2N.pmk_own PySem.F.excBase_ValueError h.ex h.g h.kp h.raises hg hdb)
/-! a try whose clause names the error: the body and the suite are derived where they are asked -/
def tTryB (X : Cx) (body : List Stmt) (W : L2.WX) : TS := fun D σ H =>
  ∀ (pn : List (Addr × Obj)) (xe : Value → Shared → Prop), L2N.Takes (X.tr pn xe) W → PassesOwn (model X.prog X.w) X.A X.env xe →
    ∃ t, PSs (X.tr pn xe) body t ∧ t D σ H
def tTryS (X : Cx) (suite : List Stmt) (a : Addr) (cls : Value) (d : Option Addr) : TS := fun D σ H =>
  ∀ (oe : Obj) (pn : List (Addr × Obj)), L2N.Zn cls d oe → (∃ vs, oe.data = .fields vs) →
    ∃ t, PSs (X.suite a ((a, oe) :: pn)) suite t ∧ t D σ H
def tTry (X : Cx) (K : PySem.W.Frag) (c : Value) (i : Nat) (Wout : L2.WX) (body suite : List Stmt) : TS := fun D σ H =>
  tTryB X body (wAs K c i (tTryS X suite) Wout D) D σ H
theorem ps_tryU {X : Cx} {K : PySem.W.Frag} {x n : Str} {c : Value} {i : Nat} {body suite : List Stmt} {b₀ : Stmt} {np pos pos' : Pos} {Wout : L2.WX}
    (hN : X.N.Nodup) (hi : X.N[i]? = some n) (hc : Names X x c) (tk : L2N.Takes X Wout) (hs : X.stack = X.env :: X.outer := by rfl)
    (hf : X.env.frame = some X.env.locals := by rfl) (hln : X.env.kindOf n = some .local := by rfl) (hK : X.K = K := by rfl) :
    PS X (.Try body [.ExceptHandler (some (.Name x np)) (some n) (b₀ :: suite) pos'] [] [] pos) (tTry X K c i Wout body (b₀ :: suite)) := by
  subst hK
  refine L2N.ps_try_as (tb := tTryB X body) (ts := tTryS X (b₀ :: suite)) hs hf hN hi hln hc tk (fun W pn xe tk' po => ?_) (fun a oe cls d pn hz hv => ?_)
  · constructor
    intro pins s σ H D I h
    obtain ⟨t, ht, q⟩ := h pn xe tk' po
    exact ht.run pins s σ H D I q
  · constructor
    intro pins s σ H D I h
    obtain ⟨t, ht, q⟩ := h oe pn hz hv
    exact ht.run pins s σ H D I q
structure ConAt (mg : Str → Option Value) (x : Str) (v : V) : Prop where
  ex : ∃ u, mg x = some u ∧ RelV v u
theorem pe_con_ {X : Cx} {x : Str} {v : V} {pos : Pos} (h : ConAt X.mg x v) (hg : Gl X x) (hd : (x == ("__debug__" : Str)) = false := by decide) : PE X (.Name x pos) (tC v) := by
  obtain ⟨u, h1, h2⟩ := h.ex
  exact pe_glob hg h1 h2 hd
theorem hot_of {A : Around} {a : Addr} {oe : Obj} {cls : Value} {d : Option Addr} (hz : L2N.Zn cls d oe) (hf : ∃ vs, oe.data = .fields vs) : L2H.Hot1 (A.mark (some (.ref a))) (a, oe) := by
  obtain ⟨vs, hv⟩ := hf
  exact ⟨rfl, vs, hv, hz.2.2 vs hv⟩
theorem markH {k : Nat} {A : Around} {o : Option Value} (h : L2H.RoomH k A) : L2H.RoomH k (A.mark o) := ⟨h.dp, h.un⟩
theorem hot_fields {A : Around} {e : Addr × Obj} (h : L2H.Hot1 A e) : ∃ vs, e.2.data = .fields vs := by
  obtain ⟨_, vs, hv, _⟩ := h
  exact ⟨vs, hv⟩
theorem passN0 {X : Cx} : Passes (L2N.CX X.prog X.w) X E0 := fun pins σ H s e s' I h => passN σ pins H s e s' I h
/-- isinstance by a built-in type's name -/
def isF (x : V) (S : String) : Bool := match x with
  | .non => S == "NoneType"
  | .bl _ => S == "bool" || S == "int"
  | .int _ => S == "int"
  | .str _ => S == "str"
  | _ => false
theorem kits : kitB "NoneType" "int" = some false ∧ kitB "NoneType" "bool" = some false ∧ kitB "NoneType" "str" = some false ∧ kitB "NoneType" "tuple" = some false ∧ kitB "NoneType" "list" = some false ∧ kitB "NoneType" "dict" = some false := by decide +kernel
theorem kitb : kitB "bool" "int" = some true ∧ kitB "bool" "bool" = some true ∧ kitB "bool" "str" = some false ∧ kitB "bool" "tuple" = some false ∧ kitB "bool" "list" = some false ∧ kitB "bool" "dict" = some false := by decide +kernel
theorem kiti : kitB "int" "int" = some true ∧ kitB "int" "bool" = some false ∧ kitB "int" "str" = some false ∧ kitB "int" "tuple" = some false ∧ kitB "int" "list" = some false ∧ kitB "int" "dict" = some false := by decide +kernel
theorem kitt : kitB "str" "int" = some false ∧ kitB "str" "bool" = some false ∧ kitB "str" "str" = some true ∧ kitB "str" "tuple" = some false ∧ kitB "str" "list" = some false ∧ kitB "str" "dict" = some false := by decide +kernel
theorem kitu : kitB "tuple" "int" = some false ∧ kitB "tuple" "bool" = some false ∧ kitB "tuple" "str" = some false ∧ kitB "tuple" "tuple" = some true ∧ kitB "tuple" "list" = some false ∧ kitB "tuple" "dict" = some false := by decide +kernel
theorem kitl : kitB "list" "int" = some false ∧ kitB "list" "bool" = some false ∧ kitB "list" "str" = some false ∧ kitB "list" "tuple" = some false ∧ kitB "list" "list" = some true ∧ kitB "list" "dict" = some false := by decide +kernel
theorem kitd : kitB "dict" "int" = some false ∧ kitB "dict" "bool" = some false ∧ kitB "dict" "str" = some false ∧ kitB "dict" "tuple" = some false ∧ kitB "dict" "list" = some false ∧ kitB "dict" "dict" = some true := by decide +kernel
def sixT (S : String) : Prop := S = "int" ∨ S = "bool" ∨ S = "str" ∨ S = "tuple" ∨ S = "list" ∨ S = "dict"
def uIsi (K : PySem.W.Frag) : List V → Hp → VK → Prop := rIsi K
theorem call_uisi {X : Cx} {K : PySem.W.Frag} (hK : X.K = K := by rfl) : CallR X (.builtin "isinstance") (uIsi K) := by
  subst hK
  exact call_isi
theorem v_isi_flat {K : PySem.W.Frag} {x : V} {S : String} {H : Hp} {Q : VK} (f : flatV x = true) (hS : sixT S) (q : Q (.bl (isF x S)) H) : uIsi K [x, .ty S] H Q := by
  have key : ∃ t, TyX K H x (.type t) ∧ kitB t S = some (isF x S) := by
    obtain ⟨a1, a2, a3, a4, a5, a6⟩ := kits
    obtain ⟨b1, b2, b3, b4, b5, b6⟩ := kitb
    obtain ⟨c1, c2, c3, c4, c5, c6⟩ := kiti
    obtain ⟨d1, d2, d3, d4, d5, d6⟩ := kitt
    cases x with
    | non => exact ⟨_, .base .non, by rcases hS with rfl | rfl | rfl | rfl | rfl | rfl <;> assumption⟩
    | bl b => exact ⟨_, .base (.bl b), by rcases hS with rfl | rfl | rfl | rfl | rfl | rfl <;> assumption⟩
    | int i => exact ⟨_, .base (.int i), by rcases hS with rfl | rfl | rfl | rfl | rfl | rfl <;> assumption⟩
    | str z => exact ⟨_, .base (.str z), by rcases hS with rfl | rfl | rfl | rfl | rfl | rfl <;> assumption⟩
    | byt b => exact absurd f (by simp [flatV])
    | flt b => exact absurd f (by simp [flatV])
    | ref a => exact absurd f (by simp [flatV])
    | ty n => exact absurd f (by simp [flatV])
  obtain ⟨t, h1, h2⟩ := key
  exact ⟨x, .ty S, _, _, _, rfl, .ty S, h1, kit_ty h2, q⟩
theorem v_isi_tup {K : PySem.W.Frag} {a : Addr} {xs : List V} {S : String} {H : Hp} {Q : VK} (h : H a = some (.tup xs)) (hS : sixT S) (q : Q (.bl (S == "tuple")) H) : uIsi K [.ref a, .ty S] H Q := by
  obtain ⟨d1, d2, d3, d4, d5, d6⟩ := kitu
  refine ⟨_, .ty S, _, _, _, rfl, .ty S, .base (.tup h), kit_ty (?_ : _ = some (S == "tuple")), q⟩
  rcases hS with rfl | rfl | rfl | rfl | rfl | rfl <;> assumption
theorem v_isi_lst {K : PySem.W.Frag} {a : Addr} {xs : List V} {S : String} {H : Hp} {Q : VK} (h : H a = some (.lst xs)) (hS : sixT S) (q : Q (.bl (S == "list")) H) : uIsi K [.ref a, .ty S] H Q := by
  obtain ⟨d1, d2, d3, d4, d5, d6⟩ := kitl
  refine ⟨_, .ty S, _, _, _, rfl, .ty S, .base (.lst h), kit_ty (?_ : _ = some (S == "list")), q⟩
  rcases hS with rfl | rfl | rfl | rfl | rfl | rfl <;> assumption
theorem v_isi_dic {K : PySem.W.Frag} {a : Addr} {kvs : List (Key × V)} {S : String} {H : Hp} {Q : VK} (h : H a = some (.dK kvs)) (hS : sixT S) (q : Q (.bl (S == "dict")) H) : uIsi K [.ref a, .ty S] H Q := by
  obtain ⟨d1, d2, d3, d4, d5, d6⟩ := kitd
  refine ⟨_, .ty S, _, _, _, rfl, .ty S, .base (.dK h), kit_ty (?_ : _ = some (S == "dict")), q⟩
  rcases hS with rfl | rfl | rfl | rfl | rfl | rfl <;> assumption
theorem v_isi_dicT {K : PySem.W.Frag} {a : Addr} {kvs : List (List Key × V)} {S : String} {H : Hp} {Q : VK} (h : H a = some (.dT kvs)) (hS : sixT S) (q : Q (.bl (S == "dict")) H) : uIsi K [.ref a, .ty S] H Q := by
  obtain ⟨d1, d2, d3, d4, d5, d6⟩ := kitd
  refine ⟨_, .ty S, _, _, _, rfl, .ty S, .base (.dT h), kit_ty (?_ : _ = some (S == "dict")), q⟩
  rcases hS with rfl | rfl | rfl | rfl | rfl | rfl <;> assumption
theorem v_isE {K : PySem.W.Frag} {D a : Addr} {c : V} {cv : Value} {b : Bool} {H : Hp} {Q : VK} (C : ExcC K D) (hcv : ∀ u, RelV c u → u = cv)
    (hk : PySem.W.kitOne K (.ref D) cv = some b) (q : Q (.bl b) H) : uIsE K (.ref D) none a [.ref a, c] H Q := ⟨D, c, cv, b, rfl, rfl, C, rfl, hcv, hk, q⟩
/-! ## 7. more of what takes what comes -/
section
variable {X : Cx} {K : PySem.W.Frag}
def uMax (K : PySem.W.Frag) := rMax K
def uMin (K : PySem.W.Frag) := rMin K
def uSum (K : PySem.W.Frag) := rSum K
def uAll (K : PySem.W.Frag) := rAll K
def uAny (K : PySem.W.Frag) := rAny K
theorem cr_umax (hc : X.calm = true) (hK : X.K = K := by rfl) : CallR X (.builtin "max") (uMax K) := by subst hK; exact cr_max hc
theorem cr_umin (hc : X.calm = true) (hK : X.K = K := by rfl) : CallR X (.builtin "min") (uMin K) := by subst hK; exact cr_min hc
theorem cr_usum (hc : X.calm = true) (hK : X.K = K := by rfl) : CallR X (.builtin "sum") (uSum K) := by subst hK; exact cr_sum hc
theorem cr_uall (hc : X.calm = true) (hK : X.K = K := by rfl) : CallR X (.builtin "all") (uAll K) := by subst hK; exact cr_all hc
theorem cr_uany (hc : X.calm = true) (hK : X.K = K := by rfl) : CallR X (.builtin "any") (uAny K) := by subst hK; exact cr_any hc
def uMax2 : List V → Hp → VK → Prop := fun xs H Q => ∃ i j, xs = [.int i, .int j] ∧ Q (.int (if j > i then j else i)) H
def uMin2 : List V → Hp → VK → Prop := fun xs H Q => ∃ i j, xs = [.int i, .int j] ∧ Q (.int (if j < i then j else i)) H
theorem call_umax2 (hc : X.calm = true) : CallR X (.builtin "max") uMax2 := call_max2 hc
theorem call_umin2 (hc : X.calm = true) : CallR X (.builtin "min") uMin2 := call_min2 hc
def uInt1 : List V → Hp → VK → Prop := fun xs H Q => (∃ i, xs = [.int i] ∧ Q (.int i) H) ∨ ∃ k, xs = [.bl k] ∧ Q (.int (if k then 1 else 0)) H
theorem call_uint1 : CallR X (.type "int") uInt1 := call_int1
def uStrI : List V → Hp → VK → Prop := fun xs H Q => ∃ i, xs = [.int i] ∧ i.natAbs.log2 < 1920 ∧ Q (.str (toString i)) H
theorem call_ustr : CallR X (.type "str") uStrI := call_str_int
def uSorted (K : PySem.W.Frag) : List V → Hp → VK → Prop := fun vs H Q => (rSortedI K vs H Q ∨ rSortedS K vs H Q) ∨ rSortC K vs H Q
theorem cr_usorted (hK : X.K = K := by rfl) : CallR X (.builtin "sorted") (uSorted K) := by subst hK; exact CallR.or (CallR.or cr_sortedI cr_sortedS) cr_sortedC
def uLt : R2 := fun x y H Q => rI0 (fun i j => .bl (decide (i < j))) x y H Q ∨ ∃ i j, x = .str i ∧ y = .str j ∧ Q (.bl (decide (i.cps.toList < j.cps.toList))) H
theorem op_ult : OpR X (compareOp .Lt) uLt := OpR.or op_lt op_lt_str
def rInDk (neg : Bool) : R2 := fun y x H Q => ∃ a o, x = .ref a ∧ DGet H a y o ∧ Q (.bl (if neg then !o.isSome else o.isSome)) H
theorem op_inDk (hu : X.A.units + 1 < cLine) : OpR X (compareOp .In) (rInDk false) := by
  intro pins s σ H y x u v Q I ry rx h
  obtain ⟨a, o, rfl, g, q⟩ := h
  obtain rfl : v = Value.ref a := rx
  exact d_in hu I g ry fun s' I' => ⟨.bl o.isSome, H, I', rfl, q⟩
theorem op_ninDk (hu : X.A.units + 1 < cLine) : OpR X (compareOp .NotIn) (rInDk true) := by
  intro pins s σ H y x u v Q I ry rx h
  obtain ⟨a, o, rfl, g, q⟩ := h
  obtain rfl : v = Value.ref a := rx
  exact d_notIn hu I g ry fun s' I' => ⟨.bl (!o.isSome), H, I', rfl, q⟩
def rInDp (K : PySem.W.Frag) (neg : Bool) : R2 := fun x y H Q => ∃ d ds, Dp K H x d ∧ Dp K H y (.list ds) ∧ SeqAt.shaped d = true ∧ SeqAt.shaped (.list ds) = true ∧ Q (.bl (if neg then !ds.any fun z => PyData.eqv z d else ds.any fun z => PyData.eqv z d)) H
def uIn (K : PySem.W.Frag) (neg : Bool) : R2 := fun x y H Q => ((rIn K neg x y H Q ∨ rInDp K neg x y H Q) ∨ rInDk neg x y H Q) ∨
  ∃ i j, x = .str i ∧ y = .str j ∧ Q (.bl (if neg then !(!(Builtin.Str.occurrences j i 0 j.length 1).isEmpty) else !(Builtin.Str.occurrences j i 0 j.length 1).isEmpty)) H
theorem op_uin {k : Nat} (hr : L2H.RoomH k X.A) (hK : X.K = K := by rfl) : OpR X (compareOp .In) (uIn K false) := by
  subst hK
  exact OpR.or (OpR.or (OpR.or op_in_seq (L2.op_inD (by have := hr.un; omega))) (op_inDk (units1 hr))) op_in_str
theorem op_unin {k : Nat} (hr : L2H.RoomH k X.A) (hK : X.K = K := by rfl) : OpR X (compareOp .NotIn) (uIn K true) := by
  subst hK
  exact OpR.or (OpR.or (OpR.or op_notIn_seq (L2.op_notInD (by have := hr.un; omega))) (op_ninDk (units1 hr))) op_notin_str
theorem ip_uadd : PIp X .Add (ipI fun i j => i + j) := ip_add
theorem ip_usub : PIp X .Sub (ipI fun i j => i - j) := ip_sub
def uList (K : PySem.W.Frag) : List V → Hp → VK → Prop := fun xs H Q => (∃ p ys, xs = [.ref p] ∧ (SqL K H p ys ∨ SqT K H p ys) ∧ ∀ l, H l = none → Q (.ref l) (upd H l (.lst ys))) ∨ rListD xs H Q
theorem call_ulist (hc : X.calm = true) (hK : X.K = K := by rfl) : CallR X (.type "list") (uList K) := by subst hK; exact CallR.or call_list_of (call_list_dK hc)
def uTuple (K : PySem.W.Frag) : List V → Hp → VK → Prop := fun xs H Q => ∃ p ys, xs = [.ref p] ∧ ((SqL K H p ys ∧ ∀ l, H l = none → Q (.ref l) (upd H l (.tup ys))) ∨ (SqT K H p ys ∧ Q (.ref p) H))
theorem call_utuple (hK : X.K = K := by rfl) : CallR X (.type "tuple") (uTuple K) := by subst hK; exact call_tuple_of
def tNotU (t : TT) : TE := fun σ H Q => t σ H fun c H1 => Q (.bl (!c)) H1
end
/-! ## 8. heaps: what stands -/
structure Chg (S : List Addr) (H H' : Hp) : Prop where
  keep : ∀ {b o}, H b = some o → b ∉ S → H' b = some o
  tup : ∀ {b xs}, H b = some (.tup xs) → H' b = some (.tup xs)
  dom : ∀ {b}, H' b = none → H b = none
theorem Chg.refl {S : List Addr} {H : Hp} : Chg S H H := ⟨fun h _ => h, fun h => h, fun h => h⟩
theorem Chg.at {H H' : Hp} (c : Chg [] H H') {b : Addr} {o : HO} (h : H b = some o) : H' b = some o := c.keep h (by simp)
theorem Chg.same {H H' : Hp} (c : Chg [] H H') : Same H H' := fun _ _ h => c.at h
theorem Chg.mono {S S' : List Addr} {H H' : Hp} (c : Chg S H H') (h : ∀ b ∈ S, b ∈ S') : Chg S' H H' :=
  ⟨fun e n => c.keep e fun m => n (h _ m), c.tup, c.dom⟩
theorem Chg.of0 {S : List Addr} {H H' : Hp} (c : Chg [] H H') : Chg S H H' := c.mono (by simp)
theorem Chg.trans {S : List Addr} {H H1 H2 : Hp} (a : Chg S H H1) (b : Chg S H1 H2) : Chg S H H2 :=
  ⟨fun e n => b.keep (a.keep e n) n, fun e => b.tup (a.tup e), fun e => a.dom (b.dom e)⟩
/-- what is changed besides was new -/
theorem Chg.trans' {S S' : List Addr} {H H1 H2 : Hp} (a : Chg S H H1) (b : Chg S' H1 H2) (hn : ∀ l ∈ S', l ∈ S ∨ H l = none) : Chg S H H2 :=
  ⟨fun {c o} e n => b.keep (a.keep e n) fun m => (hn c m).elim n fun z => (by rw [z] at e; cases e), fun e => b.tup (a.tup e), fun e => a.dom (b.dom e)⟩
theorem Chg.new {H : Hp} {p : Addr} {o : HO} (h : H p = none) : Chg [] H (upd H p o) := by
  refine ⟨fun {b u} e _ => ?_, fun {b u} e => ?_, fun {b} e => ?_⟩
  · rw [upd_ne (ne_of_none e h)]; exact e
  · rw [upd_ne (ne_of_none e h)]; exact e
  · by_cases hb : b = p
    · subst hb; exact h
    · rw [upd_ne hb] at e; exact e
theorem Chg.set {H : Hp} {p : Addr} {o u : HO} (h : H p = some u) (hu : ∀ xs, u ≠ .tup xs) : Chg [p] H (upd H p o) := by
  refine ⟨fun {b v} e n => ?_, fun {b xs} e => ?_, fun {b} e => ?_⟩
  · rw [upd_ne (by simpa using n)]; exact e
  · have : b ≠ p := fun z => by subst z; rw [h] at e; exact hu xs (Option.some.inj e)
    rw [upd_ne this]; exact e
  · by_cases hb : b = p
    · subst hb; rw [upd_same] at e; cases e
    · rw [upd_ne hb] at e; exact e
theorem Chg.ne {S : List Addr} {H H' : Hp} (c : Chg S H H') {p q : Addr} {o : HO} (hp : H' p = none) (hq : H q = some o) : q ≠ p := by
  intro e; subst e; rw [c.dom hp] at hq; cases hq
theorem Chg.seqL {K : PySem.W.Frag} {H H' : Hp} (c : Chg [] H H') {a : Addr} {xs : List V} (h : SqL K H a xs) : SqL K H' a xs := c.same.seq h
theorem Chg.seqLS {K : PySem.W.Frag} {S : List Addr} {H H' : Hp} (c : Chg S H H') {a : Addr} {xs : List V} (h : SqL K H a xs) (n : ∀ o, H a = some o → a ∉ S) : SqL K H' a xs := by
  rcases h with (h | ⟨o, h⟩) | h
  · exact .inl (.inl (c.keep h (n _ h)))
  · exact .inl (.inr ⟨o, c.keep h (n _ h)⟩)
  · exact .inr h
theorem Chg.seqT {K : PySem.W.Frag} {H H' : Hp} (c : Chg [] H H') {a : Addr} {xs : List V} (h : SqT K H a xs) : SqT K H' a xs := by
  rcases h with (h | ⟨o, h⟩) | h
  · exact .inl (.inl (c.at h))
  · exact .inl (.inr ⟨o, c.at h⟩)
  · exact .inr h
end RT

namespace RT
open PySem PySem.Spec PyProof.Rows L2
/-! ## 9. the readings, from the left, one step a lemma -/
section
variable {t u : TS} {n : L2.St → Hp → Prop} {r : VK} {b c : L2.St → Hp → Prop} {σ : L2.St} {H : Hp} {te tf : TE} {g : TG} {Q : VK} {i : Nat} {v x y : V}
theorem v_seq (h : t ⟨u ⟨n, r, b, c⟩, r, b, c⟩ σ H) : tSeq t u ⟨n, r, b, c⟩ σ H := h
theorem v_next (h : n σ H) : tNext ⟨n, r, b, c⟩ σ H := h
theorem v_break (h : b σ H) : tBreak ⟨n, r, b, c⟩ σ H := h
theorem v_cont (h : c σ H) : tCont ⟨n, r, b, c⟩ σ H := h
theorem v_asg (h : te σ H fun x H1 => g x σ H1 n) : tAsg te g ⟨n, r, b, c⟩ σ H := h
theorem v_name {Q : L2.St → Hp → Prop} (h : Q (σ.set i (some v)) H) : gName i v σ H Q := h
theorem v_gtup {K : PySem.W.Frag} {m : Nat} {t : TGs} {a : Addr} {xs : List V} {Q : L2.St → Hp → Prop} (e : SqT K H a xs) (hl : xs.length = m) (h : t xs σ H Q) : gTup K m t (.ref a) σ H Q := ⟨a, xs, rfl, e, hl, h⟩
theorem v_gcons {t : TG} {u : TGs} {vs : List V} {Q : L2.St → Hp → Prop} (h : t v σ H fun σ' H' => u vs σ' H' Q) : gCons t u (v :: vs) σ H Q := ⟨v, vs, rfl, h⟩
theorem v_gnil {Q : L2.St → Hp → Prop} (h : Q σ H) : gNil [] σ H Q := ⟨rfl, h⟩
theorem v_drop (h : te σ H fun _ H1 => n σ H1) : tDrop te ⟨n, r, b, c⟩ σ H := h
theorem v_ret (h : te σ H r) : tRet te ⟨n, r, b, c⟩ σ H := h
theorem v_retN (h : r .non H) : tRetN ⟨n, r, b, c⟩ σ H := h
theorem v_ifs {tc : TT} (h : tc σ H fun k H1 => if k = true then t ⟨n, r, b, c⟩ σ H1 else u ⟨n, r, b, c⟩ σ H1) : tIfS tc t u ⟨n, r, b, c⟩ σ H := h
/-- where two ways meet again: what holds there -/
theorem v_join {U : L2.St → Hp → Prop} (R : L2.St → Hp → Prop) (k : ∀ σ H, R σ H → U σ H) (h : ∀ U : L2.St → Hp → Prop, (∀ σ H, R σ H → U σ H) → t ⟨U, r, b, c⟩ σ H) : t ⟨U, r, b, c⟩ σ H := h U k
/-- an if whose test does something: what holds behind it -/
theorem v_ifJ {tc : TT} {D : Ends} (R : Bool → Hp → Prop) (k1 : ∀ H', R true H' → t D σ H') (k2 : ∀ H', R false H' → u D σ H') (h : ∀ Q : Bool → Hp → Prop, (∀ k H', R k H' → Q k H') → tc σ H Q) : tIfS tc t u D σ H := by
  refine h _ fun k H' hr => ?_
  cases k with
  | true => rw [if_pos rfl]; exact k1 H' hr
  | false => rw [if_neg Bool.false_ne_true]; exact k2 H' hr
theorem v_aug {ti : TIp} (h : σ[i]? = some (some x)) (q : te σ H fun y H1 => ti x y H1 fun z H2 => n (σ.set i (some z)) H2) : tAug i te ti ⟨n, r, b, c⟩ σ H := ⟨x, h, q⟩
theorem v_ipI {f : Int → Int → Int} {i j : Int} (q : Q (.int (f i j)) H) : ipI f (.int i) (.int j) H Q := ⟨_, _, rfl, rfl, q⟩
theorem v_var (h : σ[i]? = some (some v)) (q : Q v H) : tVar i σ H Q := ⟨v, h, q⟩
theorem v_c (q : Q v H) : tC v σ H Q := q
theorem v_op {rr : R2} (h : te σ H fun x H1 => tf σ H1 fun y H2 => rr x y H2 Q) : tOp rr te tf σ H Q := h
theorem v_un {rr : V → Hp → VK → Prop} (h : te σ H fun x H1 => rr x H1 Q) : tUn rr te σ H Q := h
def IsB (x : V) (P : Bool → Prop) : Prop := ∃ k, x = .bl k ∧ P k
theorem v_isb {P : Bool → Prop} {k : Bool} (h : P k) : IsB (.bl k) P := ⟨k, rfl, h⟩
theorem v_test {Q : Bool → Hp → Prop} (h : te σ H fun x H1 => IsB x fun k => Q k H1) : tTest te σ H Q := h
theorem v_tb {Q : Bool → Hp → Prop} (h : te σ H fun x H1 => IsB x fun k => Q k H1) : tB te σ H Q := h
def Tru (K : PySem.W.Frag) (x : V) (H : Hp) (P : Bool → Prop) : Prop := ∃ k, TruV K x H k ∧ P k
theorem v_tru {K : PySem.W.Frag} {Q : Bool → Hp → Prop} (h : te σ H fun x H1 => Tru K x H1 fun k => Q k H1) : tTru K te σ H Q := h
theorem v_tru_b {K : PySem.W.Frag} {P : Bool → Prop} {k : Bool} (h : P k) : Tru K (.bl k) H P := ⟨k, rfl, h⟩
theorem v_tru_i {K : PySem.W.Frag} {P : Bool → Prop} {i : Int} (h : P (i != 0)) : Tru K (.int i) H P := ⟨_, rfl, h⟩
theorem v_tru_n {K : PySem.W.Frag} {P : Bool → Prop} (h : P false) : Tru K .non H P := ⟨_, rfl, h⟩
theorem v_tru_l {K : PySem.W.Frag} {P : Bool → Prop} {a : Addr} {xs : List V} (hl : SqL K H a xs) (h : P (!xs.isEmpty)) : Tru K (.ref a) H P := ⟨_, .inl ⟨xs, hl, rfl⟩, h⟩
theorem v_tru_t {K : PySem.W.Frag} {P : Bool → Prop} {a : Addr} {xs : List V} (hl : SqT K H a xs) (h : P (!xs.isEmpty)) : Tru K (.ref a) H P := ⟨_, .inr (.inl ⟨xs, hl, rfl⟩), h⟩
theorem v_and {t u : TT} {Q : Bool → Hp → Prop} (h : t σ H fun k H1 => if k = true then u σ H1 Q else Q false H1) : tAnd t u σ H Q := h
theorem v_or {t u : TT} {Q : Bool → Hp → Prop} (h : t σ H fun k H1 => if k = true then Q true H1 else u σ H1 Q) : tOr t u σ H Q := h
theorem v_not {t : TT} {Q : Bool → Hp → Prop} (h : t σ H fun k H1 => Q (!k) H1) : tNot t σ H Q := h
theorem v_notU {t : TT} (h : t σ H fun k H1 => Q (.bl (!k)) H1) : tNotU t σ H Q := h
theorem v_andV (h : te σ H fun x H1 => IsB x fun k => if k = true then tf σ H1 Q else Q (.bl false) H1) : tAndV te tf σ H Q := h
theorem v_orV (h : te σ H fun x H1 => IsB x fun k => if k = true then Q (.bl true) H1 else tf σ H1 Q) : tOrV te tf σ H Q := h
theorem v_ifE {t : TT} (h : t σ H fun k H1 => if k = true then te σ H1 Q else tf σ H1 Q) : tIf t te tf σ H Q := h
theorem v_chain {rr rs : R2} {tg : TE} (h : te σ H fun x H1 => tf σ H1 fun y H2 => rr x y H2 fun z H3 => IsB z fun k => if k = true then tg σ H3 fun w' H4 => rs y w' H4 Q else Q (.bl false) H3) : tChain rr rs te tf tg σ H Q := h
theorem v_nil {Q : List V → Hp → Prop} (h : Q [] H) : tNil σ H Q := h
theorem v_cons {tr : TA} {Q : List V → Hp → Prop} (h : te σ H fun x H1 => tr σ H1 fun xs H2 => Q (x :: xs) H2) : tCons te tr σ H Q := h
theorem v_callS {sp : Sp} {E : L2.St → XK} {ta : TA} (h : ta σ H fun vs H1 => sp vs H1 Q (E σ)) : tCallS sp E ta σ H Q := h
theorem v_call {sp : Sp} {E : XK} {ta : TA} (h : ta σ H fun vs H1 => sp (vs ++ []) H1 Q E) : tCall sp [] E ta σ H Q := h
theorem v_cb {rr : List V → Hp → VK → Prop} {ta : TA} (h : ta σ H fun vs H1 => rr vs H1 Q) : tCB rr ta σ H Q := h
def BM (K : PySem.W.Frag) (T : String) (x : V) (H : Hp) (P : Prop) : Prop := tyV K T x H ∧ P
theorem v_bm {K : PySem.W.Frag} {T : String} {rr : V → List V → Hp → VK → Prop} {ta : TA} (h : te σ H fun x H1 => BM K T x H1 (ta σ H1 fun xs H2 => rr x xs H2 Q)) : tBM K T rr te ta σ H Q := h
theorem v_bm0 {K : PySem.W.Frag} {T : String} {rr : V → List V → Hp → VK → Prop} (h : te σ H fun x H1 => BM K T x H1 (rr x [] H1 Q)) : tBM0 K T rr te σ H Q := h
theorem v_bml {K : PySem.W.Frag} {p : Addr} {xs : List V} {P : Prop} (h : SqL K H p xs) (q : P) : BM K "list" (.ref p) H P := ⟨.inl ⟨rfl, xs, h⟩, q⟩
theorem v_bms {K : PySem.W.Frag} {z : Str} {P : Prop} (q : P) : BM K "str" (.str z) H P := ⟨rfl, q⟩
def NewL (xs : List V) (H : Hp) (Q : VK) : Prop := xs.length ≤ sizeLine ∧ ∀ p, H p = none → Q (.ref p) (upd H p (.lst xs))
def NewT (xs : List V) (H : Hp) (Q : VK) : Prop := xs.length ≤ sizeLine ∧ ∀ p, H p = none → Q (.ref p) (upd H p (.tup xs))
theorem v_lst {ta : TA} (h : ta σ H fun xs H1 => NewL xs H1 Q) : tLst ta σ H Q := h
theorem v_tup {ta : TA} (h : ta σ H fun xs H1 => NewT xs H1 Q) : tTup ta σ H Q := h
theorem v_newL {xs : List V} (hl : xs.length ≤ sizeLine) (h : ∀ p H', H p = none → Chg [] H H' → H' p = some (.lst xs) → Q (.ref p) H') : NewL xs H Q :=
  ⟨hl, fun p hp => h p _ hp (.new hp) upd_same⟩
theorem v_newT {xs : List V} (hl : xs.length ≤ sizeLine) (h : ∀ p H', H p = none → Chg [] H H' → H' p = some (.tup xs) → Q (.ref p) H') : NewT xs H Q :=
  ⟨hl, fun p hp => h p _ hp (.new hp) upd_same⟩
theorem v_iteT {A B : Prop} (h : A) : if true = true then A else B := by rw [if_pos rfl]; exact h
theorem v_iteF {A B : Prop} (h : B) : if false = true then A else B := by rw [if_neg Bool.false_ne_true]; exact h
theorem v_iteD {p A B : Prop} [Decidable p] (h1 : p → A) (h2 : ¬ p → B) : if decide p = true then A else B := by
  by_cases h : p
  · rw [decide_eq_true h]; exact v_iteT (h1 h)
  · rw [decide_eq_false h]; exact v_iteF (h2 h)
theorem v_iteN {p A B : Prop} [Decidable p] (h1 : ¬ p → A) (h2 : p → B) : if (!decide p) = true then A else B := by
  by_cases h : p
  · rw [decide_eq_true h]; exact v_iteF (h2 h)
  · rw [decide_eq_false h]; exact v_iteT (h1 h)
theorem v_iteNT {A B : Prop} (h : B) : if (!true) = true then A else B := v_iteF h
theorem v_iteNF {A B : Prop} (h : A) : if (!false) = true then A else B := v_iteT h
theorem v_iteB {k : Bool} {A B : Prop} (h1 : k = true → A) (h2 : k = false → B) : if k = true then A else B := by
  cases k
  · exact v_iteF (h2 rfl)
  · exact v_iteT (h1 rfl)
theorem v_iteNB {k : Bool} {A B : Prop} (h1 : k = false → A) (h2 : k = true → B) : if (!k) = true then A else B := by
  cases k
  · exact v_iteT (h1 rfl)
  · exact v_iteF (h2 rfl)
def IsI (x : V) (P : Int → Prop) : Prop := ∃ i, x = .int i ∧ P i
/-- by values -/
theorem v_rI0 {f : Int → Int → V} {i j : Int} (q : Q (f i j) H) : rI0 f (.int i) (.int j) H Q := ⟨_, _, rfl, rfl, q⟩
theorem v_rI {C : Int → Int → Prop} {f : Int → Int → V} {i j : Int} (hc : C i j) (q : Q (f i j) H) : rI C f (.int i) (.int j) H Q := ⟨_, _, rfl, rfl, hc, q⟩
theorem v_rU {f : Int → V} {i : Int} (q : Q (f i) H) : rU f (.int i) H Q := ⟨_, rfl, q⟩
variable {K : PySem.W.Frag}
theorem v_add_ii {i j : Int} (q : Q (.int (i + j)) H) : uAdd K (.int i) (.int j) H Q := .inl (.inl ⟨_, _, rfl, rfl, q⟩)
theorem v_add_ss {i j : Str} (hl : i.length + j.length ≤ sizeLine) (q : Q (.str (i ++ j)) H) : uAdd K (.str i) (.str j) H Q := .inl (.inr ⟨_, _, rfl, rfl, hl, q⟩)
theorem v_add_ll {a b : Addr} {xs ys : List V} (h1 : H a = some (.lst xs)) (h2 : H b = some (.lst ys)) (hl : xs.length + ys.length ≤ sizeLine)
    (q : ∀ p H', H p = none → Chg [] H H' → H' p = some (.lst (xs ++ ys)) → Q (.ref p) H') : uAdd K (.ref a) (.ref b) H Q :=
  .inr (.inl ⟨a, b, xs, ys, rfl, rfl, h1, h2, hl, fun p hp => q p _ hp (.new hp) upd_same⟩)
theorem v_mul_ii {i j : Int} (hc : CMul i j) (q : Q (.int (i * j)) H) : uMul (.int i) (.int j) H Q := .inl ⟨_, _, rfl, rfl, hc, q⟩
theorem v_eq_ii {i j : Int} (q : Q (.bl (decide (i = j))) H) : uEq K (.int i) (.int j) H Q := .inl (.inl ⟨rfl, by rw [dec_int, show (i == j) = decide (i = j) from rfl]; exact q⟩)
theorem v_ne_ii {i j : Int} (q : Q (.bl (!decide (i = j))) H) : uNe K (.int i) (.int j) H Q := .inl (.inl ⟨rfl, by rw [dec_int, show (i == j) = decide (i = j) from rfl]; exact q⟩)
theorem v_eq_ss {i j : Str} (q : Q (.bl (decide (i = j))) H) : uEq K (.str i) (.str j) H Q := .inl (.inl ⟨rfl, by rw [dec_str, show (i == j) = decide (i = j) from rfl]; exact q⟩)
theorem v_ne_ss {i j : Str} (q : Q (.bl (!decide (i = j))) H) : uNe K (.str i) (.str j) H Q := .inl (.inl ⟨rfl, by rw [dec_str, show (i == j) = decide (i = j) from rfl]; exact q⟩)
theorem v_eq_d {x y : V} {d e : PyData} (h1 : Dp K H x d) (h2 : Dp K H y e) (s1 : SeqAt.shaped d = true) (s2 : SeqAt.shaped e = true) (q : Q (.bl (PyData.eqv d e)) H) : uEq K x y H Q := .inl (.inr ⟨d, e, h1, h2, s1, s2, q⟩)
theorem v_ne_d {x y : V} {d e : PyData} (h1 : Dp K H x d) (h2 : Dp K H y e) (s1 : SeqAt.shaped d = true) (s2 : SeqAt.shaped e = true) (q : Q (.bl (!PyData.eqv d e)) H) : uNe K x y H Q := .inl (.inr ⟨d, e, h1, h2, s1, s2, q⟩)
theorem v_eq_bb {i j : Bool} (q : Q (.bl (i == j)) H) : uEq K (.bl i) (.bl j) H Q := .inl (.inl ⟨rfl, by rw [dec_bl]; exact q⟩)
theorem v_ne_bb {i j : Bool} (q : Q (.bl (!(i == j))) H) : uNe K (.bl i) (.bl j) H Q := .inl (.inl ⟨rfl, by rw [dec_bl]; exact q⟩)
theorem v_bits (h : te σ H fun x H1 => IsI x fun i => Q (.int (Builtin.Int.intBits i : Nat)) H1) : tBits te σ H Q := h
theorem v_lt_ii {i j : Int} (q : Q (.bl (decide (i < j))) H) : uLt (.int i) (.int j) H Q := .inl ⟨_, _, rfl, rfl, q⟩
theorem v_len_l {a : Addr} {xs : List V} (h : SqL K H a xs) (q : Q (.int xs.length) H) : uLen K [.ref a] H Q := .inl (.inl ⟨a, xs, rfl, .inl h, q⟩)
theorem v_len_t {a : Addr} {xs : List V} (h : SqT K H a xs) (q : Q (.int xs.length) H) : uLen K [.ref a] H Q := .inl (.inl ⟨a, xs, rfl, .inr h, q⟩)
theorem v_len_s {z : Str} (h : z.length ≤ sizeLine) (q : Q (.int z.length) H) : uLen K [.str z] H Q := .inl (.inr ⟨z, rfl, h, q⟩)
theorem v_ix_l {a : Addr} {xs : List V} {i : Int} {v : V} (h : SqL K H a xs) (hi : atI xs i = some v) (q : Q v H) : uIx K (.ref a) (.int i) H Q := .inl (.inl ⟨a, xs, i, v, rfl, rfl, h, hi, q⟩)
theorem v_ix_t {a : Addr} {xs : List V} {i : Int} {v : V} (h : SqT K H a xs) (hi : atI xs i = some v) (q : Q v H) : uIx K (.ref a) (.int i) H Q := .inl (.inr (.inl ⟨a, xs, i, v, rfl, rfl, h, hi, q⟩))
theorem v_ix_s {z : Str} {i : Int} {c : Nat} (hl : z.length ≤ sizeLine) (hi : atI z.cps.toList i = some c) (q : Q (.str ⟨#[c]⟩) H) : uIx K (.str z) (.int i) H Q := .inl (.inr (.inr ⟨z, i, c, rfl, rfl, hl, hi, q⟩))
theorem v_in_l {a : Addr} {xs : List V} {x : V} (h : SqL K H a xs) (fx : flatV x = true) (fs : xs.all flatV = true) (q : Q (.bl (inV x xs)) H) : uIn K false x (.ref a) H Q := .inl (.inl (.inl ⟨a, xs, rfl, .inl h, fx, fs, q⟩))
theorem v_nin_l {a : Addr} {xs : List V} {x : V} (h : SqL K H a xs) (fx : flatV x = true) (fs : xs.all flatV = true) (q : Q (.bl (!inV x xs)) H) : uIn K true x (.ref a) H Q := .inl (.inl (.inl ⟨a, xs, rfl, .inl h, fx, fs, q⟩))
theorem v_in_t {a : Addr} {xs : List V} {x : V} (h : SqT K H a xs) (fx : flatV x = true) (fs : xs.all flatV = true) (q : Q (.bl (inV x xs)) H) : uIn K false x (.ref a) H Q := .inl (.inl (.inl ⟨a, xs, rfl, .inr h, fx, fs, q⟩))
theorem v_in_d {a : Addr} {y : V} {o : Option V} (g : DGet H a y o) (q : Q (.bl o.isSome) H) : uIn K false y (.ref a) H Q := .inl (.inr ⟨a, o, rfl, g, q⟩)
theorem v_nin_d {a : Addr} {y : V} {o : Option V} (g : DGet H a y o) (q : Q (.bl (!o.isSome)) H) : uIn K true y (.ref a) H Q := .inl (.inr ⟨a, o, rfl, g, q⟩)
theorem inV_strs (z : Str) (zs : List Str) : inV (.str z) (zs.map V.str) = decide (z ∈ zs) := by
  unfold inV
  induction zs with
  | nil => rfl
  | cons y zs ih =>
    rw [List.map_cons, List.any_cons, ih, show eqV (.str y) (.str z) = (y == z) from rfl]
    by_cases h : y = z
    · subst h; simp
    · have h' : ¬ z = y := fun e => h e.symm
      simp [h, h']
theorem flat_strs (zs : List Str) : (zs.map V.str).all flatV = true := by rw [List.all_map]; exact List.all_eq_true.mpr fun _ _ => rfl
theorem flat_ints (zs : List Int) : (zs.map V.int).all flatV = true := by rw [List.all_map]; exact List.all_eq_true.mpr fun _ _ => rfl
theorem cut_mem {xs : List V} {lo hi : Option Int} {x : V} (h : x ∈ cutV xs lo hi) : x ∈ xs := List.mem_of_mem_drop (List.mem_of_mem_take h)
/-- an item at some place -/
theorem atI_some {α : Type} {xs : List α} {i : Int} (h0 : 0 ≤ i) (h1 : i < xs.length) : ∃ v, atI xs i = some v ∧ xs[i.toNat]? = some v := by
  obtain ⟨k, rfl⟩ := Int.eq_ofNat_of_zero_le h0
  have hk : k < xs.length := by omega
  exact ⟨xs[k], atI_nat (List.getElem?_eq_getElem hk), by simpa using List.getElem?_eq_getElem hk⟩
theorem v_ix_lany {a : Addr} {xs : List V} {i : Int} (h : SqL K H a xs) (h0 : 0 ≤ i) (h1 : i < xs.length) (q : ∀ v, xs[i.toNat]? = some v → Q v H) : uIx K (.ref a) (.int i) H Q := by
  obtain ⟨v, e1, e2⟩ := atI_some (xs := xs) h0 h1
  exact v_ix_l h e1 (q v e2)
theorem v_ix_tany {a : Addr} {xs : List V} {i : Int} (h : SqT K H a xs) (h0 : 0 ≤ i) (h1 : i < xs.length) (q : ∀ v, xs[i.toNat]? = some v → Q v H) : uIx K (.ref a) (.int i) H Q := by
  obtain ⟨v, e1, e2⟩ := atI_some (xs := xs) h0 h1
  exact v_ix_t h e1 (q v e2)
theorem v_sl_l {a : Addr} {xs : List V} {lo hi : Option Int} (h : SqL K H a xs) (q : ∀ p H', H p = none → Chg [] H H' → H' p = some (.lst (cutV xs lo hi)) → Q (.ref p) H') : uSl K (.ref a) lo hi H Q :=
  .inl ⟨a, xs, rfl, h, fun p hp => q p _ hp (.new hp) upd_same⟩
theorem cutV_whole {xs : List V} {lo hi : Option Int} (h : HT.sIx xs.length 0 lo = 0 ∧ HT.sIx xs.length xs.length hi = xs.length) : cutV xs lo hi = xs := by
  unfold cutV
  rw [h.1, h.2]
  simp
theorem v_sl_t {a : Addr} {xs : List V} {lo hi : Option Int} (h : H a = some (.tup xs)) (q : ∀ p H', Chg [] H H' → H' p = some (.tup (cutV xs lo hi)) → Q (.ref p) H') : uSl K (.ref a) lo hi H Q :=
  .inr ⟨a, xs, rfl, SqT.of h, fun z => q a H .refl (by rw [cutV_whole z]; exact h), fun _ p hp => q p _ (.new hp) upd_same⟩
theorem v_add_tt {a b : Addr} {xs ys : List V} (h1 : H a = some (.tup xs)) (h2 : H b = some (.tup ys)) (hl : xs.length + ys.length ≤ sizeLine)
    (q : ∀ p H', Chg [] H H' → H' p = some (.tup (xs ++ ys)) → Q (.ref p) H') : uAdd K (.ref a) (.ref b) H Q :=
  .inr (.inr ⟨a, b, xs, ys, rfl, rfl, SqT.of h1, SqT.of h2, hl, fun e => q b H .refl (by rw [e]; exact h2), fun _ e => q a H .refl (by rw [e, List.append_nil]; exact h1), fun _ _ p hp => q p _ (.new hp) upd_same⟩)
theorem v_pop0 {a : Addr} {x : V} {xs : List V} (h : H a = some (.lst (x :: xs))) (q : ∀ H', Chg [a] H H' → H' a = some (.lst xs) → Q x H') : rPopAt (.ref a) [.int 0] H Q :=
  ⟨a, x :: xs, 0, 0, x, rfl, rfl, h, by decide, by decide, by simp [seqIndex?], rfl, q _ (Chg.set h (by intro _ z; cases z)) upd_same⟩
theorem v_sl {rr : V → Option Int → Option Int → Hp → VK → Prop} {tl th : TO} (h : te σ H fun x H1 => tl σ H1 fun l H2 => th σ H2 fun u H3 => rr x l u H3 Q) : tSl rr te tl th σ H Q := h
theorem v_nopart {Q : Option Int → Hp → Prop} (h : Q none H) : tNoPart σ H Q := h
theorem v_isi {P : Int → Prop} {i : Int} (h : P i) : IsI (.int i) P := ⟨i, rfl, h⟩
theorem v_part {Q : Option Int → Hp → Prop} (h : te σ H fun x H1 => IsI x fun i => Q (some i) H1) : tPart te σ H Q := h
theorem v_append {a : Addr} {xs : List V} {y : V} (h : H a = some (.lst xs)) (hl : xs.length < sizeLine) (q : ∀ H', Chg [a] H H' → H' a = some (.lst (xs ++ [y])) → Q .non H') : rAppend (.ref a) [y] H Q :=
  ⟨a, xs, y, rfl, rfl, h, hl, q _ (.set h (by intro _ e; cases e)) upd_same⟩
theorem v_cnt {a : Addr} {xs : List V} {y : V} (h : SqL K H a xs) (fy : flatV y = true) (fx : xs.all flatV = true) (q : Q (.int (xs.countP fun z => eqV z y : Nat)) H) : uCnt K (.ref a) [y] H Q := ⟨a, xs, y, rfl, rfl, h, fy, fx, q⟩
theorem v_max2 {i j : Int} (q : Q (.int (if j > i then j else i)) H) : uMax2 [.int i, .int j] H Q := ⟨_, _, rfl, q⟩
theorem v_min2 {i j : Int} (q : Q (.int (if j < i then j else i)) H) : uMin2 [.int i, .int j] H Q := ⟨_, _, rfl, q⟩
theorem v_int_i {i : Int} (q : Q (.int i) H) : uInt1 [.int i] H Q := .inl ⟨_, rfl, q⟩
theorem v_int_b {k : Bool} (q : Q (.int (if k then 1 else 0)) H) : uInt1 [.bl k] H Q := .inr ⟨_, rfl, q⟩
theorem v_sorted_i {a : Addr} {ns : List Int} (h : SqL K H a (ns.map V.int)) (q : ∀ (ms : List Int) p H', ms.Perm ns → ms.Pairwise (· ≤ ·) → H p = none → Chg [] H H' → H' p = some (.lst (ms.map V.int)) → Q (.ref p) H') : uSorted K [.ref a] H Q :=
  .inl (.inl ⟨a, ns, rfl, h, fun ms p h1 h2 hp => q ms p _ h1 h2 hp (.new hp) upd_same⟩)
theorem v_max_i {a : Addr} {ns : List Int} (h : SqL K H a (ns.map V.int)) (hn : 0 < ns.length) (q : ∀ m, m ∈ ns → (∀ y, y ∈ ns → y ≤ m) → Q (.int m) H) : uMax K [.ref a] H Q := ⟨a, ns, rfl, h, hn, q⟩
end
theorem v_raise {W : L2.WX} {D : Ends} {cls : Value} {σ : L2.St} {H : Hp} (h : W cls none σ H) : tRaise W cls D σ H := h
theorem v_isi_i_int {K : PySem.W.Frag} {i : Int} {H : Hp} {Q : VK} (q : Q (.bl true) H) : uIsi K [(.int i), .ty "int"] H Q := v_isi_flat rfl (by simp [sixT]) q
theorem v_isi_i_bool {K : PySem.W.Frag} {i : Int} {H : Hp} {Q : VK} (q : Q (.bl false) H) : uIsi K [(.int i), .ty "bool"] H Q := v_isi_flat rfl (by simp [sixT]) q
theorem v_isi_i_str {K : PySem.W.Frag} {i : Int} {H : Hp} {Q : VK} (q : Q (.bl false) H) : uIsi K [(.int i), .ty "str"] H Q := v_isi_flat rfl (by simp [sixT]) q
theorem v_isi_i_tuple {K : PySem.W.Frag} {i : Int} {H : Hp} {Q : VK} (q : Q (.bl false) H) : uIsi K [(.int i), .ty "tuple"] H Q := v_isi_flat rfl (by simp [sixT]) q
theorem v_isi_i_list {K : PySem.W.Frag} {i : Int} {H : Hp} {Q : VK} (q : Q (.bl false) H) : uIsi K [(.int i), .ty "list"] H Q := v_isi_flat rfl (by simp [sixT]) q
theorem v_isi_i_dict {K : PySem.W.Frag} {i : Int} {H : Hp} {Q : VK} (q : Q (.bl false) H) : uIsi K [(.int i), .ty "dict"] H Q := v_isi_flat rfl (by simp [sixT]) q
theorem v_isi_b_int {K : PySem.W.Frag} {i : Bool} {H : Hp} {Q : VK} (q : Q (.bl true) H) : uIsi K [(.bl i), .ty "int"] H Q := v_isi_flat rfl (by simp [sixT]) q
theorem v_isi_b_bool {K : PySem.W.Frag} {i : Bool} {H : Hp} {Q : VK} (q : Q (.bl true) H) : uIsi K [(.bl i), .ty "bool"] H Q := v_isi_flat rfl (by simp [sixT]) q
theorem v_isi_b_str {K : PySem.W.Frag} {i : Bool} {H : Hp} {Q : VK} (q : Q (.bl false) H) : uIsi K [(.bl i), .ty "str"] H Q := v_isi_flat rfl (by simp [sixT]) q
theorem v_isi_b_tuple {K : PySem.W.Frag} {i : Bool} {H : Hp} {Q : VK} (q : Q (.bl false) H) : uIsi K [(.bl i), .ty "tuple"] H Q := v_isi_flat rfl (by simp [sixT]) q
theorem v_isi_b_list {K : PySem.W.Frag} {i : Bool} {H : Hp} {Q : VK} (q : Q (.bl false) H) : uIsi K [(.bl i), .ty "list"] H Q := v_isi_flat rfl (by simp [sixT]) q
theorem v_isi_b_dict {K : PySem.W.Frag} {i : Bool} {H : Hp} {Q : VK} (q : Q (.bl false) H) : uIsi K [(.bl i), .ty "dict"] H Q := v_isi_flat rfl (by simp [sixT]) q
theorem v_isi_s_int {K : PySem.W.Frag} {i : Str} {H : Hp} {Q : VK} (q : Q (.bl false) H) : uIsi K [(.str i), .ty "int"] H Q := v_isi_flat rfl (by simp [sixT]) q
theorem v_isi_s_bool {K : PySem.W.Frag} {i : Str} {H : Hp} {Q : VK} (q : Q (.bl false) H) : uIsi K [(.str i), .ty "bool"] H Q := v_isi_flat rfl (by simp [sixT]) q
theorem v_isi_s_str {K : PySem.W.Frag} {i : Str} {H : Hp} {Q : VK} (q : Q (.bl true) H) : uIsi K [(.str i), .ty "str"] H Q := v_isi_flat rfl (by simp [sixT]) q
theorem v_isi_s_tuple {K : PySem.W.Frag} {i : Str} {H : Hp} {Q : VK} (q : Q (.bl false) H) : uIsi K [(.str i), .ty "tuple"] H Q := v_isi_flat rfl (by simp [sixT]) q
theorem v_isi_s_list {K : PySem.W.Frag} {i : Str} {H : Hp} {Q : VK} (q : Q (.bl false) H) : uIsi K [(.str i), .ty "list"] H Q := v_isi_flat rfl (by simp [sixT]) q
theorem v_isi_s_dict {K : PySem.W.Frag} {i : Str} {H : Hp} {Q : VK} (q : Q (.bl false) H) : uIsi K [(.str i), .ty "dict"] H Q := v_isi_flat rfl (by simp [sixT]) q
theorem v_isi_n_int {K : PySem.W.Frag}  {H : Hp} {Q : VK} (q : Q (.bl false) H) : uIsi K [.non, .ty "int"] H Q := v_isi_flat rfl (by simp [sixT]) q
theorem v_isi_n_bool {K : PySem.W.Frag}  {H : Hp} {Q : VK} (q : Q (.bl false) H) : uIsi K [.non, .ty "bool"] H Q := v_isi_flat rfl (by simp [sixT]) q
theorem v_isi_n_str {K : PySem.W.Frag}  {H : Hp} {Q : VK} (q : Q (.bl false) H) : uIsi K [.non, .ty "str"] H Q := v_isi_flat rfl (by simp [sixT]) q
theorem v_isi_n_tuple {K : PySem.W.Frag}  {H : Hp} {Q : VK} (q : Q (.bl false) H) : uIsi K [.non, .ty "tuple"] H Q := v_isi_flat rfl (by simp [sixT]) q
theorem v_isi_n_list {K : PySem.W.Frag}  {H : Hp} {Q : VK} (q : Q (.bl false) H) : uIsi K [.non, .ty "list"] H Q := v_isi_flat rfl (by simp [sixT]) q
theorem v_isi_n_dict {K : PySem.W.Frag}  {H : Hp} {Q : VK} (q : Q (.bl false) H) : uIsi K [.non, .ty "dict"] H Q := v_isi_flat rfl (by simp [sixT]) q
theorem v_isi_t_int {K : PySem.W.Frag} {a : Addr} {xs : List V} {H : Hp} {Q : VK} (h : H a = some (.tup xs)) (q : Q (.bl false) H) : uIsi K [.ref a, .ty "int"] H Q := v_isi_tup h (by simp [sixT]) q
theorem v_isi_t_bool {K : PySem.W.Frag} {a : Addr} {xs : List V} {H : Hp} {Q : VK} (h : H a = some (.tup xs)) (q : Q (.bl false) H) : uIsi K [.ref a, .ty "bool"] H Q := v_isi_tup h (by simp [sixT]) q
theorem v_isi_t_str {K : PySem.W.Frag} {a : Addr} {xs : List V} {H : Hp} {Q : VK} (h : H a = some (.tup xs)) (q : Q (.bl false) H) : uIsi K [.ref a, .ty "str"] H Q := v_isi_tup h (by simp [sixT]) q
theorem v_isi_t_tuple {K : PySem.W.Frag} {a : Addr} {xs : List V} {H : Hp} {Q : VK} (h : H a = some (.tup xs)) (q : Q (.bl true) H) : uIsi K [.ref a, .ty "tuple"] H Q := v_isi_tup h (by simp [sixT]) q
theorem v_isi_t_list {K : PySem.W.Frag} {a : Addr} {xs : List V} {H : Hp} {Q : VK} (h : H a = some (.tup xs)) (q : Q (.bl false) H) : uIsi K [.ref a, .ty "list"] H Q := v_isi_tup h (by simp [sixT]) q
theorem v_isi_t_dict {K : PySem.W.Frag} {a : Addr} {xs : List V} {H : Hp} {Q : VK} (h : H a = some (.tup xs)) (q : Q (.bl false) H) : uIsi K [.ref a, .ty "dict"] H Q := v_isi_tup h (by simp [sixT]) q
theorem v_isi_l_int {K : PySem.W.Frag} {a : Addr} {xs : List V} {H : Hp} {Q : VK} (h : H a = some (.lst xs)) (q : Q (.bl false) H) : uIsi K [.ref a, .ty "int"] H Q := v_isi_lst h (by simp [sixT]) q
theorem v_isi_l_bool {K : PySem.W.Frag} {a : Addr} {xs : List V} {H : Hp} {Q : VK} (h : H a = some (.lst xs)) (q : Q (.bl false) H) : uIsi K [.ref a, .ty "bool"] H Q := v_isi_lst h (by simp [sixT]) q
theorem v_isi_l_str {K : PySem.W.Frag} {a : Addr} {xs : List V} {H : Hp} {Q : VK} (h : H a = some (.lst xs)) (q : Q (.bl false) H) : uIsi K [.ref a, .ty "str"] H Q := v_isi_lst h (by simp [sixT]) q
theorem v_isi_l_tuple {K : PySem.W.Frag} {a : Addr} {xs : List V} {H : Hp} {Q : VK} (h : H a = some (.lst xs)) (q : Q (.bl false) H) : uIsi K [.ref a, .ty "tuple"] H Q := v_isi_lst h (by simp [sixT]) q
theorem v_isi_l_list {K : PySem.W.Frag} {a : Addr} {xs : List V} {H : Hp} {Q : VK} (h : H a = some (.lst xs)) (q : Q (.bl true) H) : uIsi K [.ref a, .ty "list"] H Q := v_isi_lst h (by simp [sixT]) q
theorem v_isi_l_dict {K : PySem.W.Frag} {a : Addr} {xs : List V} {H : Hp} {Q : VK} (h : H a = some (.lst xs)) (q : Q (.bl false) H) : uIsi K [.ref a, .ty "dict"] H Q := v_isi_lst h (by simp [sixT]) q
/-! dicts -/
section
variable {H : Hp} {Q : VK} {K : PySem.W.Frag} {a : Addr} {kvs : List (Key × V)}
theorem v_ix_d {y v : V} (g : DGet H a y (some v)) (q : Q v H) : uIx K (.ref a) y H Q := .inr ⟨a, v, rfl, g, q⟩
theorem v_set_d {y v : V} {k : Key} {Q : Hp → Prop} (e : H a = some (.dK kvs)) (hy : y = kV k) (hl : kvs.length < sizeLine) (q : ∀ H', Chg [a] H H' → H' a = some (.dK (putK kvs k v)) → Q H') : uSet (.ref a) y v H Q := by
  subst hy
  exact .inr ⟨a, _, rfl, DPut.k e hl, q _ (Chg.set e (by intro _ z; cases z)) upd_same⟩
theorem v_set_t {v : V} {kvs : List (List Key × V)} {k : List Key} {b : Addr} {Q : Hp → Prop} (e : H a = some (.dT kvs)) (eb : H b = some (.tup (k.map kV))) (hl : kvs.length < sizeLine) (q : ∀ H', Chg [a] H H' → H' a = some (.dT (putK kvs k v)) → Q H') : uSet (.ref a) (.ref b) v H Q :=
  .inr ⟨a, _, rfl, DPut.t e eb hl, q _ (Chg.set e (by intro _ z; cases z)) upd_same⟩
theorem v_set_l {i : Int} {v : V} {xs : List V} {j : Nat} {Q : Hp → Prop} (e : H a = some (.lst xs)) (hj : ixN xs.length i = some j) (q : ∀ H', Chg [a] H H' → H' a = some (.lst (xs.set j v)) → Q H') : uSet (.ref a) (.int i) v H Q :=
  .inl ⟨a, xs, i, j, rfl, rfl, e, hj, q _ (Chg.set e (by intro _ z; cases z)) upd_same⟩
theorem v_list_d (e : H a = some (.dK kvs)) (q : ∀ p H', H p = none → Chg [] H H' → H' p = some (.lst (kvs.map fun kv => kV kv.1)) → Q (.ref p) H') : uList K [.ref a] H Q :=
  .inr ⟨a, kvs, rfl, e, fun p hp => q p _ hp (.new hp) upd_same⟩
theorem v_list_l {xs : List V} (e : SqL K H a xs) (q : ∀ p H', H p = none → Chg [] H H' → H' p = some (.lst xs) → Q (.ref p) H') : uList K [.ref a] H Q :=
  .inl ⟨a, xs, rfl, .inl e, fun p hp => q p _ hp (.new hp) upd_same⟩
theorem v_list_t {xs : List V} (e : SqT K H a xs) (q : ∀ p H', H p = none → Chg [] H H' → H' p = some (.lst xs) → Q (.ref p) H') : uList K [.ref a] H Q :=
  .inl ⟨a, xs, rfl, .inr e, fun p hp => q p _ hp (.new hp) upd_same⟩
theorem v_tuple_l {xs : List V} (e : SqL K H a xs) (q : ∀ p H', H p = none → Chg [] H H' → H' p = some (.tup xs) → Q (.ref p) H') : uTuple K [.ref a] H Q :=
  ⟨a, xs, rfl, .inl ⟨e, fun p hp => q p _ hp (.new hp) upd_same⟩⟩
theorem v_tuple_t {xs : List V} (e : SqT K H a xs) (q : Q (.ref a) H) : uTuple K [.ref a] H Q := ⟨a, xs, rfl, .inr ⟨e, q⟩⟩
theorem v_sub {to ti : TE} {t : TSet} {v : V} {σ : L2.St} {n : L2.St → Hp → Prop} (h : to σ H fun o H1 => ti σ H1 fun i H2 => t o i v H2 fun H3 => n σ H3) : gSub to ti t v σ H n := h
/-- dict displays -/
def DispE (p : Addr) (ps : List (V × V)) (H2 : Hp) (Q : VK) : Prop := H2 p = some (.dK []) ∧ ∃ kvs : List (Key × V), ps = kvs.map (fun kv => (kV kv.1, kv.2)) ∧ kvs.length ≤ 15 ∧ Q (.ref p) (upd H2 p (.dK (mergeK [] kvs)))
theorem v_disp {trs : List (TE × TE)} {σ : L2.St} (h : ∀ p H', H p = none → Chg [] H H' → H' p = some (.dK []) → tPairs trs σ H' fun ps H2 => DispE p ps H2 Q) : tDisp trs σ H Q := fun p hp => h p _ hp (.new hp) upd_same
theorem v_pcons {tk tv : TE} {trs : List (TE × TE)} {σ : L2.St} {Q : List (V × V) → Hp → Prop} (h : tk σ H fun x H1 => tv σ H1 fun y H2 => tPairs trs σ H2 fun ps H3 => Q ((x, y) :: ps) H3) : tPairs ((tk, tv) :: trs) σ H Q := h
theorem v_pnil {σ : L2.St} {Q : List (V × V) → Hp → Prop} (h : Q [] H) : tPairs [] σ H Q := h
theorem v_dispE {p : Addr} {ps : List (V × V)} (kvs : List (Key × V)) (e : H p = some (.dK [])) (hp : ps = kvs.map (fun kv => (kV kv.1, kv.2))) (hl : kvs.length ≤ 15) (q : ∀ H', Chg [p] H H' → H' p = some (.dK (mergeK [] kvs)) → Q (.ref p) H') : DispE p ps H Q :=
  ⟨e, kvs, hp, hl, q _ (Chg.set e (by intro _ z; cases z)) upd_same⟩
theorem v_dnewK {σ : L2.St} (q : ∀ p H', H p = none → Chg [] H H' → H' p = some (.dK []) → Q (.ref p) H') : tDNewK σ H Q := fun p hp => q p _ hp (.new hp) upd_same
theorem v_dnewT {σ : L2.St} (q : ∀ p H', H p = none → Chg [] H H' → H' p = some (.dT []) → Q (.ref p) H') : tDNewT σ H Q := fun p hp => q p _ hp (.new hp) upd_same
end
theorem v_eq_dT {H : Hp} {Q : VK} {K : PySem.W.Frag} {a b : Addr} {ks ls : List (List Key × V)} (ha : H a = some (.dT ks)) (hb : H b = some (.dT ls)) (hl : ks.length = ls.length) (h : ∀ p ∈ ks, valV ls p.1 = some p.2 ∧ flatB p.2 = true) (q : Q (.bl true) H) : uEq K (.ref a) (.ref b) H Q :=
  .inr (.inr ⟨a, b, ks, ls, rfl, rfl, ha, hb, hl, h, q⟩)
theorem v_ne_dT {H : Hp} {Q : VK} {K : PySem.W.Frag} {a b : Addr} {ks ls : List (List Key × V)} (ha : H a = some (.dT ks)) (hb : H b = some (.dT ls)) (hl : ks.length = ls.length) (h : ∀ p ∈ ks, valV ls p.1 = some p.2 ∧ flatB p.2 = true) (q : Q (.bl false) H) : uNe K (.ref a) (.ref b) H Q :=
  .inr (.inr ⟨a, b, ks, ls, rfl, rfl, ha, hb, hl, h, q⟩)
section
variable {κ : Type} [DecidableEq κ]
theorem valV_mem {kvs : List (κ × V)} (hn : (kvs.map (·.1)).Nodup) {p : κ × V} (h : p ∈ kvs) : valV kvs p.1 = some p.2 := by
  induction kvs with
  | nil => cases h
  | cons q r ih =>
    rw [List.map_cons, List.nodup_cons] at hn
    rcases List.mem_cons.mp h with rfl | h
    · exact valV_pos rfl
    · have : ¬ q.1 = p.1 := fun e => hn.1 (by rw [e]; exact List.mem_map_of_mem h)
      rw [valV_neg this]; exact ih hn.2 h
theorem nd_put (kvs : List (κ × V)) (k : κ) (v : V) (hn : (kvs.map (·.1)).Nodup) : ((putK kvs k v).map (·.1)).Nodup := by
  cases h : valV kvs k with
  | none => exact nd_putK v hn h
  | some y =>
    have e : (putK kvs k v).map (·.1) = kvs.map (·.1) := by
      unfold putK
      rw [valV_any, h, if_pos (show (some y).isSome = true from rfl), List.map_map]
      apply List.map_congr_left
      intro kv _
      show (if kv.1 = k then (kv.1, v) else kv).1 = kv.1
      split <;> rfl
    rw [e]; exact hn
theorem assoc_len {ks ls : List (κ × V)} (h1 : (ks.map (·.1)).Nodup) (h2 : (ls.map (·.1)).Nodup) (h : ∀ k, valV ks k = valV ls k) : ks.length = ls.length := by
  have p : (ks.map (·.1)).Perm (ls.map (·.1)) := (List.perm_ext_iff_of_nodup h1 h2).mpr fun k => by
    constructor
    · intro m
      cases e : valV ls k with
      | none => rw [← h] at e; exact absurd m (valV_not e)
      | some y => exact valV_in e
    · intro m
      cases e : valV ks k with
      | none => rw [h] at e; exact absurd m (valV_not e)
      | some y => exact valV_in e
  have := p.length_eq
  simpa using this
end
/-! lists of ints and texts as data -/
theorem dpAll_ints {K : PySem.W.Frag} {H : Hp} : ∀ ns : List Int, DpAll K H (ns.map V.int) (ns.map PyData.int)
  | [] => .nil
  | n :: r => .cons (.int n) (dpAll_ints r)
theorem eqvAll_ints : ∀ ns ms : List Int, PyData.eqvAll (ns.map PyData.int) (ms.map PyData.int) = decide (ns = ms)
  | [], [] => rfl
  | [], _ :: _ => rfl
  | _ :: _, [] => rfl
  | n :: r, m :: t => by
    show ((n == m) && PyData.eqvAll (r.map PyData.int) (t.map PyData.int)) = _
    rw [eqvAll_ints r t]
    by_cases h : n = m
    · subst h; simp
    · simp [h]
theorem canLayAll_ints : ∀ ns : List Int, PyData.canLayAll0 (ns.map PyData.int) = true
  | [] => rfl
  | n :: r => by
    show (PyData.canLay0 (.int n) && PyData.canLayAll0 (r.map PyData.int)) = true
    rw [canLayAll_ints r]; rfl
theorem depthAll_ints : ∀ ns : List Int, PyData.depthAll (ns.map PyData.int) ≤ 1
  | [] => by decide
  | n :: r => by
    have := depthAll_ints r
    show max (PyData.depth (.int n)) (PyData.depthAll (r.map PyData.int)) ≤ 1
    have e : PyData.depth (.int n) ≤ 1 := Nat.zero_le 1
    omega
theorem shaped_ints (ns : List Int) : SeqAt.shaped (.list (ns.map PyData.int)) = true := by
  unfold SeqAt.shaped
  rw [Bool.and_eq_true, decide_eq_true_eq]
  refine ⟨canLayAll_ints ns, ?_⟩
  show PyData.depthAll (ns.map PyData.int) + 1 ≤ 64
  have := depthAll_ints ns
  omega
section
variable {H : Hp} {Q : VK} {K : PySem.W.Frag} {a b : Addr} {ns ms : List Int}
theorem v_eq_ints (h1 : SqL K H a (ns.map V.int)) (h2 : SqL K H b (ms.map V.int)) (q : Q (.bl (decide (ns = ms))) H) : uEq K (.ref a) (.ref b) H Q :=
  v_eq_d (.lst h1 (dpAll_ints ns)) (.lst h2 (dpAll_ints ms)) (shaped_ints ns) (shaped_ints ms) (by
    show Q (.bl (PyData.eqvAll (ns.map PyData.int) (ms.map PyData.int))) H
    rw [eqvAll_ints]; exact q)
theorem v_ne_ints (h1 : SqL K H a (ns.map V.int)) (h2 : SqL K H b (ms.map V.int)) (q : Q (.bl (!decide (ns = ms))) H) : uNe K (.ref a) (.ref b) H Q :=
  v_ne_d (.lst h1 (dpAll_ints ns)) (.lst h2 (dpAll_ints ms)) (shaped_ints ns) (shaped_ints ms) (by
    show Q (.bl (!PyData.eqvAll (ns.map PyData.int) (ms.map PyData.int))) H
    rw [eqvAll_ints]; exact q)
theorem v_eq_nil2 (h1 : SqL K H a []) (h2 : SqL K H b []) (q : Q (.bl true) H) : uEq K (.ref a) (.ref b) H Q := v_eq_ints (ns := []) (ms := []) h1 h2 q
theorem v_ne_nil2 (h1 : SqL K H a []) (h2 : SqL K H b []) (q : Q (.bl false) H) : uNe K (.ref a) (.ref b) H Q := v_ne_ints (ns := []) (ms := []) h1 h2 q
end
/-! ## 10. loops -/
def ForQ (J : It) (g : TG) (tb : TS) (D : Ends) (σ : L2.St) (H1 : Hp) : Prop := ∃ W : Nat → Nat → L2.St → Hp → Prop, (∃ m, W 0 m σ H1) ∧ ∀ i m σ H, W i m σ H →
  (J.stop i H ∧ D.nx σ H) ∨ (J.go i H ∧ ∃ N : L2.St → Hp → Prop, (∀ σ' H', N σ' H' → ∃ m', m' < m ∧ W (i + 1) m' σ' H') ∧ ∀ x H', J.yld i H x H' → g x σ H' fun σ2 H2 => tb { D with nx := N, ct := N, bk := D.nx } σ2 H2)
section
variable {g : TG} {tb : TS} {n : L2.St → Hp → Prop} {r : VK} {b c : L2.St → Hp → Prop} {σ : L2.St} {H : Hp} {K : PySem.W.Frag} {te : TE} {ta : TA} {Q : VK}
theorem v_for {wi : TI} (h : wi σ H fun J H1 => ForQ J g tb ⟨n, r, b, c⟩ σ H1) : tFor wi g tb ⟨n, r, b, c⟩ σ H := h
def Rng1 (vs : List V) (H : Hp) (R : It → Hp → Prop) : Prop := ∃ j : Int, vs = [.int j] ∧ -(2 ^ 62) ≤ j ∧ j < 2 ^ 62 ∧ R (Itr 0 j.toNat) H
def Rng2 (vs : List V) (H : Hp) (R : It → Hp → Prop) : Prop := ∃ i j : Int, vs = [.int i, .int j] ∧ (-(2 ^ 62) ≤ i ∧ i < 2 ^ 62 ∧ -(2 ^ 62) ≤ j ∧ j < 2 ^ 62) ∧ R (Itr i (j - i).toNat) H
def Rng3 (vs : List V) (H : Hp) (R : It → Hp → Prop) : Prop := ∃ (i j c : Int) (n : Nat), vs = [.int i, .int j, .int c] ∧ RgC i j c n ∧ R (Itc i c n) H
theorem v_rng1 {R : It → Hp → Prop} (h : ta σ H fun vs H1 => Rng1 vs H1 R) : iRng1 ta σ H R := h
theorem v_rng2 {R : It → Hp → Prop} (h : ta σ H fun vs H1 => Rng2 vs H1 R) : iRng2 ta σ H R := h
theorem v_rng3 {R : It → Hp → Prop} (h : ta σ H fun vs H1 => Rng3 vs H1 R) : iRng3 ta σ H R := h
theorem v_rng1' {R : It → Hp → Prop} {j : Int} (h1 : -(2 ^ 62) ≤ j) (h2 : j < 2 ^ 62) (h : R (Itr 0 j.toNat) H) : Rng1 [.int j] H R := ⟨j, rfl, h1, h2, h⟩
theorem v_rng2' {R : It → Hp → Prop} {i j : Int} (h1 : -(2 ^ 62) ≤ i) (h2 : i < 2 ^ 62) (h3 : -(2 ^ 62) ≤ j) (h4 : j < 2 ^ 62) (h : R (Itr i (j - i).toNat) H) : Rng2 [.int i, .int j] H R := ⟨i, j, rfl, ⟨h1, h2, h3, h4⟩, h⟩
theorem v_rng3' {R : It → Hp → Prop} {i j c : Int} {n : Nat} (h1 : RgC i j c n) (h : R (Itc i c n) H) : Rng3 [.int i, .int j, .int c] H R := ⟨i, j, c, n, rfl, h1, h⟩
theorem v_it {R : It → Hp → Prop} (h : te σ H fun x H1 => ItV K x H1 R) : uIt K te σ H R := h
theorem v_it_l {R : It → Hp → Prop} {a : Addr} {xs : List V} (hl : SqL K H a xs) (h : R (Itl K a) H) : ItV K (.ref a) H R := .inl ⟨a, rfl, ⟨xs, hl⟩, h⟩
theorem v_it_t {R : It → Hp → Prop} {a : Addr} {xs : List V} (hl : SqT K H a xs) (h : R (Itt K a) H) : ItV K (.ref a) H R := .inr (.inl ⟨a, rfl, ⟨xs, hl⟩, h⟩)
theorem v_it_s {R : It → Hp → Prop} {z : Str} (h : R (Its z) H) : ItV K (.str z) H R := .inr (.inr ⟨z, rfl, h⟩)
theorem v_for_range {lo : Int} {m : Nat} (Pv : Nat → L2.St → Hp → Prop) (h0 : Pv 0 σ H)
    (hs : ∀ i σ H, i < m → Pv i σ H → g (.int (lo + i)) σ H fun σ2 H2 => tb ⟨Pv (i + 1), r, n, Pv (i + 1)⟩ σ2 H2) (hd : ∀ σ H, Pv m σ H → n σ H) : ForQ (Itr lo m) g tb ⟨n, r, b, c⟩ σ H := for_range Pv h0 hs hd
theorem v_for_rangeC {lo st : Int} {m : Nat} (Pv : Nat → L2.St → Hp → Prop) (h0 : Pv 0 σ H)
    (hs : ∀ i σ H, i < m → Pv i σ H → g (.int (lo + (i : Nat) * st)) σ H fun σ2 H2 => tb ⟨Pv (i + 1), r, n, Pv (i + 1)⟩ σ2 H2) (hd : ∀ σ H, Pv m σ H → n σ H) : ForQ (Itc lo st m) g tb ⟨n, r, b, c⟩ σ H := for_rangeC Pv h0 hs hd
theorem v_for_list {a : Addr} {xs : List V} (Pv : Nat → L2.St → Hp → Prop) (h0 : Pv 0 σ H) (hl : ∀ i σ H, i ≤ xs.length → Pv i σ H → SqL K H a xs)
    (hs : ∀ i x σ H, xs[i]? = some x → Pv i σ H → g x σ H fun σ2 H2 => tb ⟨Pv (i + 1), r, n, Pv (i + 1)⟩ σ2 H2) (hd : ∀ σ H, Pv xs.length σ H → n σ H) : ForQ (Itl K a) g tb ⟨n, r, b, c⟩ σ H := for_list Pv h0 hl hs hd
theorem v_for_tup {a : Addr} {xs : List V} (Pv : Nat → L2.St → Hp → Prop) (h0 : Pv 0 σ H) (hl : ∀ i σ H, i ≤ xs.length → Pv i σ H → SqT K H a xs)
    (hs : ∀ i x σ H, xs[i]? = some x → Pv i σ H → g x σ H fun σ2 H2 => tb ⟨Pv (i + 1), r, n, Pv (i + 1)⟩ σ2 H2) (hd : ∀ σ H, Pv xs.length σ H → n σ H) : ForQ (Itt K a) g tb ⟨n, r, b, c⟩ σ H := for_tup Pv h0 hl hs hd
/-- a while: what holds ahead of each turn, a number that falls -/
def WT (W : Nat → L2.St → Hp → Prop) (m : Nat) (tb : TS) (r : VK) (n : L2.St → Hp → Prop) (σ : L2.St) (H : Hp) : Prop :=
  ∃ N : L2.St → Hp → Prop, (∀ σ' H', N σ' H' → ∃ m', m' < m ∧ W m' σ' H') ∧ tb ⟨N, r, n, N⟩ σ H
theorem v_while {tc : TT} (Pv : L2.St → Hp → Prop) (μ : L2.St → Hp → Nat) (h0 : Pv σ H)
    (hs : ∀ σ H, Pv σ H → tc σ H fun k H1 => if k = true then WT (fun m σ H => Pv σ H ∧ μ σ H = m) (μ σ H) tb r n σ H1 else n σ H1) : tWhile tc tb ⟨n, r, b, c⟩ σ H :=
  ⟨fun m σ H => Pv σ H ∧ μ σ H = m, ⟨_, h0, rfl⟩, fun m σ H ⟨h, e⟩ => by subst e; exact hs σ H h⟩
theorem v_wt {Pv : L2.St → Hp → Prop} {μ : L2.St → Hp → Nat} {m : Nat} (h : tb ⟨fun σ' H' => Pv σ' H' ∧ μ σ' H' < m, r, n, fun σ' H' => Pv σ' H' ∧ μ σ' H' < m⟩ σ H) : WT (fun m σ H => Pv σ H ∧ μ σ H = m) m tb r n σ H :=
  ⟨_, fun σ' H' hh => ⟨_, hh.2, hh.1, rfl⟩, h⟩
/-! comprehensions -/
def LcQ (J : It) (g : TG) (tt : TT) (te : TE) (vs : List Nat) (σ : L2.St) (H1 : Hp) (Q : VK) : Prop := ∀ D, H1 D = none → ∃ W : Nat → Nat → Hp → Prop, (∃ m, W 0 m (upd H1 D (.lst []))) ∧ ∀ i m H, W i m H →
  (J.stop i H ∧ Q (.ref D) H) ∨ (J.go i H ∧ ∃ Nx : Hp → Prop, (∀ H', Nx H' → ∃ m', m' < m ∧ W (i + 1) m' H') ∧ ∀ x H', J.yld i H x H' → g x (wipe σ vs) H' fun σ2 H2 => wipe σ2 vs = wipe σ vs ∧ tt σ2 H2 fun b H3 =>
    if b = true then te σ2 H3 fun y H4 => ∃ acc, H4 D = some (.lst acc) ∧ acc.length < sizeLine ∧ Nx (upd H4 D (.lst (acc ++ [y]))) else Nx H3)
theorem v_lc {wi : TI} {tt : TT} {vs : List Nat} (h : wi σ H fun J H1 => LcQ J g tt te vs σ H1 Q) : tLc wi g tt te vs σ H Q := h
theorem v_yes {Q : Bool → Hp → Prop} (h : Q true H) : tYes σ H Q := h
/-- an element is put to the list at D -/
def LcA (D : Addr) (Nx : Hp → Prop) (y : V) (H4 : Hp) : Prop := ∃ acc, H4 D = some (.lst acc) ∧ acc.length < sizeLine ∧ Nx (upd H4 D (.lst (acc ++ [y])))
/-- what the turns of a comprehension keep: S, what else they change -/
def LcI (S : List Addr) (H0 : Hp) (D : Addr) (Pv : Nat → List V → Hp → Prop) (i : Nat) (H : Hp) : Prop := ∃ acc, Chg S H0 H ∧ H D = some (.lst acc) ∧ Pv i acc H
theorem v_lcA {S : List Addr} {H0 H1 H4 : Hp} {D : Addr} {Pv : Nat → List V → Hp → Prop} {i : Nat} {acc : List V} {y : V} (c0 : Chg S H0 H1) (hD : H1 D = some (.lst acc)) (nD : H0 D = none) (hS : D ∉ S) (c : Chg S H1 H4) (hl : acc.length < sizeLine)
    (h : ∀ H5, Chg [D] H4 H5 → Pv i (acc ++ [y]) H5) : LcA D (LcI S H0 D Pv i) y H4 := by
  have e := c.keep hD hS
  have c5 : Chg [D] H4 (upd H4 D (.lst (acc ++ [y]))) := Chg.set e (by intro _ z; cases z)
  refine ⟨acc, e, hl, acc ++ [y], (c0.trans c).trans' c5 ?_, upd_same, h _ c5⟩
  intro l hm
  rw [List.mem_singleton] at hm
  subst hm
  exact .inr nD
theorem v_lcN {S : List Addr} {H0 H1 H4 : Hp} {D : Addr} {Pv : Nat → List V → Hp → Prop} {i : Nat} {acc : List V} (c0 : Chg S H0 H1) (hD : H1 D = some (.lst acc)) (hS : D ∉ S) (c : Chg S H1 H4) (h : Pv i acc H4) : LcI S H0 D Pv i H4 :=
  ⟨acc, c0.trans c, c.keep hD hS, h⟩
theorem v_lc_list {a : Addr} {xs : List V} {tt : TT} {vs : List Nat} (S : List Addr) (Pv : Nat → List V → Hp → Prop) (hS : ∀ b ∈ S, H b ≠ none) (hl : ∀ H', Chg S H H' → SqL K H' a xs)
    (h0 : ∀ H', Chg [] H H' → Pv 0 [] H')
    (hs : ∀ D i x acc H1, xs[i]? = some x → H D = none → D ∉ S → Chg S H H1 → H1 D = some (.lst acc) → Pv i acc H1 → g x (wipe σ vs) H1 fun σ2 H2 => wipe σ2 vs = wipe σ vs ∧ tt σ2 H2 fun k H3 =>
      if k = true then te σ2 H3 fun y H4 => LcA D (LcI S H D Pv (i + 1)) y H4 else LcI S H D Pv (i + 1) H3)
    (hd : ∀ D acc H', Chg S H H' → H D = none → H' D = some (.lst acc) → Pv xs.length acc H' → Q (.ref D) H') : LcQ (Itl K a) g tt te vs σ H Q := by
  intro D hD
  have dS : D ∉ S := fun m => hS D m hD
  refine lc_list (xs := xs) (LcI S H D Pv) ⟨[], (Chg.new hD).of0, upd_same, h0 _ (.new hD)⟩ (fun i H1 _ ⟨_, c, _⟩ => hl _ c) (fun i x H1 hx ⟨acc, c, e, p⟩ => hs D i x acc H1 hx hD dS c e p) (fun H1 ⟨acc, c, e, p⟩ => hd D acc H1 c hD e p)
theorem v_lc_tup {a : Addr} {xs : List V} {tt : TT} {vs : List Nat} (S : List Addr) (Pv : Nat → List V → Hp → Prop) (hS : ∀ b ∈ S, H b ≠ none) (hl : ∀ H', Chg S H H' → SqT K H' a xs)
    (h0 : ∀ H', Chg [] H H' → Pv 0 [] H')
    (hs : ∀ D i x acc H1, xs[i]? = some x → H D = none → D ∉ S → Chg S H H1 → H1 D = some (.lst acc) → Pv i acc H1 → g x (wipe σ vs) H1 fun σ2 H2 => wipe σ2 vs = wipe σ vs ∧ tt σ2 H2 fun k H3 =>
      if k = true then te σ2 H3 fun y H4 => LcA D (LcI S H D Pv (i + 1)) y H4 else LcI S H D Pv (i + 1) H3)
    (hd : ∀ D acc H', Chg S H H' → H D = none → H' D = some (.lst acc) → Pv xs.length acc H' → Q (.ref D) H') : LcQ (Itt K a) g tt te vs σ H Q := by
  intro D hD
  have dS : D ∉ S := fun m => hS D m hD
  refine lc_tup (xs := xs) (LcI S H D Pv) ⟨[], (Chg.new hD).of0, upd_same, h0 _ (.new hD)⟩ (fun i H1 _ ⟨_, c, _⟩ => hl _ c) (fun i x H1 hx ⟨acc, c, e, p⟩ => hs D i x acc H1 hx hD dS c e p) (fun H1 ⟨acc, c, e, p⟩ => hd D acc H1 c hD e p)
theorem v_lc_range {lo : Int} {m : Nat} {tt : TT} {vs : List Nat} (S : List Addr) (Pv : Nat → List V → Hp → Prop) (hS : ∀ b ∈ S, H b ≠ none)
    (h0 : ∀ H', Chg [] H H' → Pv 0 [] H')
    (hs : ∀ D i acc H1, i < m → H D = none → D ∉ S → Chg S H H1 → H1 D = some (.lst acc) → Pv i acc H1 → g (.int (lo + i)) (wipe σ vs) H1 fun σ2 H2 => wipe σ2 vs = wipe σ vs ∧ tt σ2 H2 fun k H3 =>
      if k = true then te σ2 H3 fun y H4 => LcA D (LcI S H D Pv (i + 1)) y H4 else LcI S H D Pv (i + 1) H3)
    (hd : ∀ D acc H', Chg S H H' → H D = none → H' D = some (.lst acc) → Pv m acc H' → Q (.ref D) H') : LcQ (Itr lo m) g tt te vs σ H Q := by
  intro D hD
  have dS : D ∉ S := fun m => hS D m hD
  refine lc_range (LcI S H D Pv) ⟨[], (Chg.new hD).of0, upd_same, h0 _ (.new hD)⟩ (fun i H1 hi ⟨acc, c, e, p⟩ => hs D i acc H1 hi hD dS c e p) (fun H1 ⟨acc, c, e, p⟩ => hd D acc H1 c hD e p)
end
end RT

/-! ## 12. enumerate(list, start) -/
namespace PySem.F
open PySem
theorem rt_typeCall_enumerate_2 (a b : Value) : checkTypeCall "enumerate" ⟨[a, b], []⟩ = pure () := by kernel_rfl
theorem rt_newCall_enumerate_2 (a b : Value) : checkBuiltinCall "enumerate.__new__" ⟨[.type "enumerate", a, b], []⟩ = pure () := by kernel_rfl
end PySem.F
namespace PySem
open Sem (wp)
theorem rt_meets_enumerate {v1 : Value} {o1 : Obj} {H1 : Heap → Prop} (B1 : Begins v1 o1 H1) (k : Int) (t : Tok) (hk : Builtin.SmallTypes.fitsIndex k = true) :
    Meets (Builtin.«enumerate.__new__» ⟨[.type "enumerate", v1, .int k t], []⟩) (fun _ R s => H1 s.heap ∧
      R (.ok (.ret (.ref (s.heap.push o1).objs.size)))
        { s with heap := (s.heap.push o1).push { cls := .type "enumerate", data := .fields #[.none, .bool false, .ref s.heap.objs.size, rawInt k, .none, .none] } }) :=
  .of_wp fun prog w A R s h => by
    obtain ⟨hp, g, d, tk, os⟩ := s; obtain ⟨h1, h⟩ := h
    have hsub := sub_enumerate
    have q1 : ∀ {A' : Around} {E : Value → Shared → Prop} {Q : Value → Shared → Prop}, Q (.ref hp.objs.size) ⟨(hp.push o1), g, d, tk, os⟩ → wpAny (model prog w) A' (pyIter v1) Q E ⟨hp, g, d, tk, os⟩ :=
      fun q => B1.iter prog w _ _ ⟨hp, g, d, tk, os⟩ _ (B1.keeps _ _ h1 fun b o' e => e) q
    wp_walk using q1
    refine wpAny_stack_any fun st => wpAny_pure ?_
    split
    · rename_i c _ _ _ _ _
      cases (c == Value.type "enumerate")
      · wp_walk using q1
        try simp only [hk, Bool.not_true, Bool.false_eq_true, if_false]
        try wp_walk using q1
        exact ⟨_, rfl, h⟩
      · wp_walk using q1
        try simp only [hk, Bool.not_true, Bool.false_eq_true, if_false]
        try wp_walk using q1
        exact ⟨_, rfl, h⟩
    · wp_walk using q1
      try simp only [hk, Bool.not_true, Bool.false_eq_true, if_false]
      try wp_walk using q1
      exact ⟨_, rfl, h⟩
section
variable {prog : Program} {w : World} {A : Around} {E : Value → Shared → Prop} {s : Shared}
theorem rt_call_enumerate {v1 : Value} {o1 : Obj} {H1 : Heap → Prop} {k : Int} {t : Tok} {Q : Value → Shared → Prop} (B1 : Begins v1 o1 H1) (hk : Builtin.SmallTypes.fitsIndex k = true) (h1 : H1 s.heap)
    (h : ∀ h', IsEnum h' (s.heap.objs.size + 1) s.heap.objs.size k .none → h'.get? s.heap.objs.size = some o1 → h'.objs.size = s.heap.objs.size + 2 →
      (∀ b o, s.heap.get? b = some o → h'.get? b = some o) → Q (.ref (s.heap.objs.size + 1)) { s with heap := h' }) :
    wpAny (model prog w) A (call (.type "enumerate") [v1, .int k t]) Q E s := by
  refine callType_new F.called_enumerate (by decide) (F.rt_typeCall_enumerate_2 _ _) (F.rt_newCall_enumerate_2 _ _) (fun obj => F.args_object_init_3 obj _ _) F.entry_enumerate_new
    (rt_meets_enumerate B1 k t hk) ⟨h1, ?_⟩
  have hz : (s.heap.push o1).objs.size = s.heap.objs.size + 1 := Heap.size_push ..
  show _ ∧ _
  rw [hz]
  have he : IsEnum ((s.heap.push o1).push { cls := .type "enumerate", data := .fields #[.none, .bool false, .ref s.heap.objs.size, rawInt k, .none, .none] }) (s.heap.objs.size + 1) s.heap.objs.size k .none := by
    have := Heap.get?_push_size (s.heap.push o1)
      (o := { cls := .type "enumerate", data := .fields #[.none, .bool false, .ref s.heap.objs.size, rawInt k, .none, .none] }) rfl
    rw [hz] at this; exact this
  refine ⟨⟨_, he, rfl⟩, h _ he (Heap.get?_push_of_some _ (Heap.get?_push_size _ B1.free)) (by rw [Heap.size_push, hz]) fun b o x => Heap.get?_push_of_some _ (Heap.get?_push_of_some _ x)⟩
end
end PySem
namespace RT
open PySem PySem.Spec PyProof.Rows L2
/-! ### lists and tuples alike (tt: a tuple) -/
def SqB (K : PySem.W.Frag) (H : Hp) (b : Bool) (a : Addr) (xs : List V) : Prop := match b with
  | false => SqL K H a xs
  | true => SqT K H a xs
def ItB (b : Bool) (h : Heap) (it a : Addr) (i : Nat) : Prop := match b with
  | false => h.IsListIter it a i
  | true => h.IsTupleIter it a i
def ObB (b : Bool) (h : Heap) (a : Addr) (its : Array Value) : Prop := match b with
  | false => h.IsList a its
  | true => h.IsTuple a its
def itO (b : Bool) (a : Addr) : Obj := match b with
  | false => { cls := .type "list_iterator", data := .fields #[.ref a, .int 0 0] }
  | true => { cls := .type "tuple_iterator", data := .fields #[.ref a, .int 0 0] }
theorem itO_at {b : Bool} {h : Heap} {it a : Addr} (e : h.get? it = some (itO b a)) : ItB b h it a 0 := by
  cases b
  · exact ⟨_, e, rfl, rfl⟩
  · exact ⟨_, e, rfl, rfl⟩
theorem ItB.obj {b : Bool} {h : Heap} {it a : Addr} {i : Nat} (x : ItB b h it a i) : ∃ o, h.get? it = some o ∧ ∀ v, o.data ≠ .cell v := by
  cases b
  · obtain ⟨o, e, _, d⟩ := x
    exact ⟨o, e, fun v z => by rw [d] at z; cases z⟩
  · obtain ⟨o, e, _, d⟩ := x
    exact ⟨o, e, fun v z => by rw [d] at z; cases z⟩
theorem ItB.at' {b : Bool} {h h' : Heap} {it a : Addr} {i : Nat} (x : ItB b h it a i) (k : ∀ o, h.get? it = some o → h'.get? it = some o) : ItB b h' it a i := by
  cases b
  · exact Heap.IsListIter.at x k
  · exact Heap.IsTupleIter.at x k
theorem ItB.lt {b : Bool} {h : Heap} {it a : Addr} {i : Nat} (x : ItB b h it a i) : it < h.objs.size := by
  obtain ⟨o, e, _⟩ := x.obj
  exact Heap.lt_size e
theorem ObB.lt {b : Bool} {h : Heap} {a : Addr} {its : Array Value} (x : ObB b h a its) : a < h.objs.size := by
  cases b
  · obtain ⟨o, e, _⟩ := x
    exact Heap.lt_size e
  · obtain ⟨o, e, _⟩ := x
    exact Heap.lt_size e
theorem begB (b : Bool) (a : Addr) (its : Array Value) : Begins (.ref a) (itO b a) (fun h => ObB b h a its) := by
  cases b
  · exact begins_list a its
  · exact begins_tuple a its
theorem drawB {prog : Program} {w : World} {A : Around} (hh : A.handled = none) (b : Bool) (it a : Addr) (hne : a ≠ it) (its : Array Value) :
    Draws prog w A it [it, a] its.size (fun i v => its[i]? = some v) (fun i h => ItB b h it a i ∧ ObB b h a its) := by
  cases b
  · exact Draws.list hh it a hne its
  · exact Draws.tuple hh it a hne its
theorem SqB.inv {X : Cx} {pins : List (Addr × Obj)} {σ : L2.St} {H : Hp} {s : Shared} {b : Bool} {a : Addr} {xs : List V} (I : L2.Inv X pins σ H s) (h : SqB X.K H b a xs) : ∃ its : List Value, Vals xs its ∧ ObB b s.heap a its.toArray := by
  cases b
  · obtain ⟨its, rv, p, _⟩ := I.list h
    exact ⟨its, rv, p.isList⟩
  · obtain ⟨its, rv, p, _⟩ := I.tuple h
    exact ⟨its, rv, p⟩
theorem SqB.inj {X : Cx} {pins : List (Addr × Obj)} {σ : L2.St} {H : Hp} {s : Shared} {b : Bool} {a : Addr} {xs ys : List V} (I : L2.Inv X pins σ H s) (h : SqB X.K H b a xs) (h' : SqB X.K H b a ys) : xs = ys := by
  cases b
  · exact I.list_inj h h'
  · exact I.tuple_inj h h'
theorem Itn.eq {α : Type} {l : List α} {i : Nat} (h : ¬ i < l.length) : l[i]? = none := by simpa using h
/-! ### enumerate(x, k) -/
def IteS (K : PySem.W.Frag) (b : Bool) (a : Addr) (k : Int) : It :=
  ⟨fun i H => ∃ (xs : List V) (x : V), SqB K H b a xs ∧ xs[i]? = some x, fun i H v H' => ∃ T x, v = .ref T ∧ H T = none ∧ H' = upd H T (.tup [.int (k + (i : Nat)), x]) ∧ ∀ xs, SqB K H b a xs → xs[i]? = some x, fun i H => ∃ xs : List V, SqB K H b a xs ∧ xs.length = i⟩
theorem turn_enumS {P : Program} {w : World} {K : PySem.W.Frag} {elts : List Expr} {kk : Nat} {tpos : Pos} (b : Bool) (a e it : Addr) (k0 : Int) (hae : a ≠ e) (hai : a ≠ it) (hei : e ≠ it) :
    Turn P w K (.Tuple elts kk tpos) (IteS K b a k0) [e, it] e (fun i h => (∃ old, IsEnum h e it (k0 + ((i : Nat) : Int)) old) ∧ ItB b h it a i) where
  mem := by simp
  obj := fun i h st c hc => by
    obtain ⟨⟨old, he⟩, hit⟩ := st
    have e' : c = e ∨ c = it := by simpa using hc
    rcases e' with z | z
    · rw [z]; exact ⟨_, he, fun v q => nomatch q⟩
    · rw [z]; exact hit.obj
  keep := fun i h h' st k => let ⟨⟨old, he⟩, hi⟩ := st; ⟨⟨old, k e (by simp) _ he⟩, hi.at' fun o q => k it (by simp) o q⟩
  item := by
    intro X hP hw hK hc i pins s σ H E I hf st hg
    subst hP hw hK
    obtain ⟨⟨old, he⟩, hit⟩ := st
    obtain ⟨xs, x, hq, hx⟩ := hg
    obtain ⟨its, rv, p⟩ := hq.inv I
    obtain ⟨u, hu, ru⟩ := rv.get hx
    have hi : i < its.toArray.size := by
      have := (List.getElem?_eq_some_iff.mp hu).1
      simpa using this
    have hel : e < s.heap.objs.size := Heap.lt_size he
    have hil := hit.lt
    refine wpAny_pyNext_enum_itemC (drawB (A := X.A.in1) (show X.A.in1.handled = none from I.ok.hd hc) b it a hai its.toArray) he ⟨hit, p⟩ hi hei (by simp [hei, Ne.symm hae]) fun u' h' tk hu' ho st' hT hsz hk => ?_
    have eu : u' = u := by
      have : its[i]? = some u' := by simpa using hu'
      rw [hu] at this
      exact (Option.some.inj this).symm
    subst eu
    refine ⟨_, rfl, wpAny_letOwnedTupleGo_enum (s := { s with heap := h', toks := tk + 1 }) ho fun h'' he' sb => ?_⟩
    have hT2 : h''.get? s.heap.objs.size = some { cls := .type "tuple", data := .seq #[.int (k0 + i) tk, u'] } := (sb.2 _ (Nat.ne_of_gt hel)).trans hT
    have new : ObjOk X.prog X.w (upd H s.heap.objs.size (.tup [.int (k0 + (i : Nat)), x])) h'' s.heap.objs.size (.tup [.int (k0 + (i : Nat)), x]) :=
      ⟨by show 2 ≤ sizeLine; decide, [.int (k0 + i) tk, u'], .cons ⟨_, rfl⟩ (.cons ru .nil), ⟨_, hT2, rfl, _, rfl⟩⟩
    have I1 : L2.Inv X pins σ (upd H s.heap.objs.size (.tup [.int (k0 + (i : Nat)), x])) { s with heap := h'', toks := tk + 1 } :=
      I.turnedNew (ch := [e, it]) (fun c ob hb q => (sb.2 c (fun z => hb (by simp [z]))).trans (hk c ob (fun z => hb (by simp [z])) (fun z => hb (by simp [z])) q)) hf (Nat.le_refl _) new
    refine ⟨.ref s.heap.objs.size, _, I1, rfl, ⟨_, x, rfl, I.hok.fresh (Nat.le_refl _), rfl, fun ys hy => by rw [hy.inj I hq]; exact hx⟩, ⟨⟨u', ?_⟩, st'.1.at' fun o q => (sb.2 it (Ne.symm hei)).trans q⟩, fun c hb => ?_⟩
    · have e1 : k0 + ((i + 1 : Nat) : Int) = k0 + (i : Int) + 1 := by omega
      rw [e1]; exact he'
    · have hb' : c < s.heap.objs.size := by
        have e' : c = e ∨ c = it := by simpa using hb
        rcases e' with z | z
        · rw [z]; exact hel
        · rw [z]; exact hil
      rw [upd_ne (Nat.ne_of_lt hb')]
      exact (hf c hb).1
  done := by
    intro X hP hw hK hc i pins s σ H E I hf st hg
    subst hP hw hK
    obtain ⟨⟨old, he⟩, hit⟩ := st
    obtain ⟨xs, hq, hx⟩ := hg
    obtain ⟨its, rv, p⟩ := hq.inv I
    obtain ⟨f0, f1, f2, f3, f4, f5⟩ := hf it (by simp)
    have hl := rv.length
    have hi : its.toArray.size = i := by simp; omega
    refine wpAny_pyNext_enum_endD (drawB (A := X.A.in1) (show X.A.in1.handled = none from I.ok.hd hc) b it a hai its.toArray) he (by rw [hi]; exact ⟨hit, p⟩) fun h' eb => ⟨rfl, I.turned (t' := s.toks) (fun c o hb q => eb c o hb q) f0 f1 f3 f4 f5⟩
  self := fun A i s Q E st h => let ⟨⟨_, he⟩, _⟩ := st; wpAny_pyIter_enum he h
def EnumS (K : PySem.W.Frag) (vs : List V) (H : Hp) (R : It → Hp → Prop) : Prop := ∃ (b : Bool) (a : Addr) (k : Int), vs = [.ref a, .int k] ∧ (-(2 ^ 62) ≤ k ∧ k < 2 ^ 62) ∧ (∃ xs, SqB K H b a xs) ∧ R (IteS K b a k) H
def iEnumS (K : PySem.W.Frag) (ta : TA) : TI := fun σ H R => ta σ H fun vs H1 => EnumS K vs H1 R
theorem pi_enumS {X : Cx} {K : PySem.W.Frag} {e e2 : Expr} {ta : TA} {p pos tpos : Pos} {elts : List Expr} {kk : Nat} (hg : Gl X "enumerate") (hm : X.mg "enumerate" = none) (ha : PA X [e, e2] ta)
    (hs : starEach [e, e2] X.env = (false, eval e X.env) :: starEach [e2] X.env := by rfl) (hpl : (backTo pos (starEach [e2] X.env)).any (·.1) = false := by rfl) (hK : X.K = K := by rfl) :
    PI X (.Tuple elts kk tpos) (.Call (.Name "enumerate" p) [e, e2] [] pos) (iEnumS K ta) := by
  subst hK
  refine ⟨fun pins s σ H R I h => ?_⟩
  refine Call_ (ld_blt I hg hm boot_enumerate (PyProof.Rows.callWith_type1 (thn (ha.run pos pins s σ H _ I h) fun us s1 ⟨vs, H1, I1, r1, q1⟩ => ?_) hs hpl))
  obtain ⟨b, a, k, ex, ⟨k0, k1⟩, ⟨xs, hq⟩, q⟩ := q1
  subst ex
  obtain ⟨u1, u2, rfl, r1, r2⟩ := Vals.two r1
  obtain rfl : u1 = Value.ref a := r1
  obtain ⟨t, rfl⟩ := r2
  obtain ⟨its, rv, p'⟩ := hq.inv I1
  have hk : Builtin.SmallTypes.fitsIndex k = true := by
    unfold Builtin.SmallTypes.fitsIndex
    simp only [Bool.and_eq_true, decide_eq_true_eq]
    omega
  have la := p'.lt
  refine rt_call_enumerate (begB b a its.toArray) hk p' fun h' he hit hsz hk => wpAny_pyIter_enum he ?_
  have I2 : L2.Inv X pins σ H1 { s1 with heap := h' } := I1.kept (t' := s1.toks) hk
  refine ⟨s1.heap.objs.size + 1, [s1.heap.objs.size + 1, s1.heap.objs.size], _, _, H1, rfl, I2, turn_enumS b a (s1.heap.objs.size + 1) s1.heap.objs.size k (by show (a : Nat) ≠ _; have := la; exact Nat.ne_of_lt (Nat.lt_succ_of_lt la)) (Nat.ne_of_lt la) (Nat.succ_ne_self _), ⟨⟨.none, ?_⟩, itO_at hit⟩, fun c hb => ?_, q⟩
  · rw [show k + ((0 : Nat) : Int) = k by omega]; exact he
  have e' : c = s1.heap.objs.size + 1 ∨ c = s1.heap.objs.size := by simpa using hb
  have hle : s1.heap.objs.size ≤ c := by
    rcases e' with z | z
    · rw [z]; exact Nat.le_add_right _ _
    · rw [z]; exact Nat.le_refl _
  exact I1.fpOk hle (I1.hok.fresh hle)
theorem v_enumS {K : PySem.W.Frag} {ta : TA} {σ : L2.St} {H : Hp} {R : It → Hp → Prop} (h : ta σ H fun vs H1 => EnumS K vs H1 R) : iEnumS K ta σ H R := h
theorem v_enumS_l {K : PySem.W.Frag} {H : Hp} {R : It → Hp → Prop} {a : Addr} {k : Int} {xs : List V} (hl : SqL K H a xs) (h0 : -(2 ^ 62) ≤ k) (h1 : k < 2 ^ 62) (h : R (IteS K false a k) H) : EnumS K [.ref a, .int k] H R := ⟨false, a, k, rfl, ⟨h0, h1⟩, ⟨xs, hl⟩, h⟩
theorem v_enumS_t {K : PySem.W.Frag} {H : Hp} {R : It → Hp → Prop} {a : Addr} {k : Int} {xs : List V} (hl : SqT K H a xs) (h0 : -(2 ^ 62) ≤ k) (h1 : k < 2 ^ 62) (h : R (IteS K true a k) H) : EnumS K [.ref a, .int k] H R := ⟨true, a, k, rfl, ⟨h0, h1⟩, ⟨xs, hl⟩, h⟩
section
variable {g : TG} {tb : TS} {n : L2.St → Hp → Prop} {r : VK} {b c : L2.St → Hp → Prop} {σ : L2.St} {H : Hp} {K : PySem.W.Frag}
theorem v_for_enumS {tt : Bool} {a : Addr} {k : Int} {xs : List V} (Pv : Nat → L2.St → Hp → Prop) (h0 : Pv 0 σ H) (hl : ∀ i σ H, i ≤ xs.length → Pv i σ H → SqB K H tt a xs)
    (hs : ∀ i x σ H t H', xs[i]? = some x → Pv i σ H → H t = none → Chg [] H H' → H' t = some (.tup [.int (k + (i : Nat)), x]) → g (.ref t) σ H' fun σ2 H2 => tb ⟨Pv (i + 1), r, n, Pv (i + 1)⟩ σ2 H2)
    (hd : ∀ σ H, Pv xs.length σ H → n σ H) : ForQ (IteS K tt a k) g tb ⟨n, r, b, c⟩ σ H := by
  refine ⟨fun i m σ H => Pv i σ H ∧ i + m = xs.length, ⟨xs.length, h0, by omega⟩, ?_⟩
  rintro i m σ H ⟨hp, hm⟩
  have hq := hl i σ H (by omega) hp
  by_cases hi : i < xs.length
  · refine .inr ⟨⟨xs, xs[i], hq, List.getElem?_eq_getElem hi⟩, Pv (i + 1), fun σ' H' h => ⟨m - 1, by omega, h, by omega⟩, ?_⟩
    rintro v H' ⟨T, x, rfl, hT, rfl, hx⟩
    exact hs i x σ H T _ (hx xs hq) hp hT (.new hT) upd_same
  · have e : i = xs.length := by omega
    subst e
    exact .inl ⟨⟨xs, hq, rfl⟩, hd σ H hp⟩
end
/-! ### zip(x, y) -/
def ItzB (K : PySem.W.Frag) (b1 b2 : Bool) (a1 a2 : Addr) : It :=
  ⟨fun i H => ∃ (xs ys : List V) (x y : V), SqB K H b1 a1 xs ∧ SqB K H b2 a2 ys ∧ xs[i]? = some x ∧ ys[i]? = some y,
    fun i H v H' => ∃ T x y, v = .ref T ∧ H T = none ∧ H' = upd H T (.tup [x, y]) ∧ (∀ xs, SqB K H b1 a1 xs → xs[i]? = some x) ∧ ∀ ys, SqB K H b2 a2 ys → ys[i]? = some y,
    fun i H => ∃ xs ys : List V, SqB K H b1 a1 xs ∧ SqB K H b2 a2 ys ∧ i ≤ xs.length ∧ i ≤ ys.length ∧ (i = xs.length ∨ i = ys.length)⟩
theorem sep2_of {z TI TO i1 i2 a b : Addr} (D : ZipApart z TI TO i1 i2 a b) : ZipSep2 z TI TO i1 i2 [i1, a] [i2, b] := by
  obtain ⟨⟩ := D
  constructor <;> (try simp only [List.mem_cons, List.not_mem_nil, or_false, not_or]) <;> (try constructor) <;> first | assumption | (apply Ne.symm; assumption) | simp
theorem turn_zipB {P : Program} {w : World} {K : PySem.W.Frag} {elts : List Expr} {kk : Nat} {tpos : Pos} {b1 b2 : Bool} {a b z TI TO i1 i2 : Addr} (D : ZipApart z TI TO i1 i2 a b) :
    Turn P w K (.Tuple elts kk tpos) (ItzB K b1 b2 a b) [z, TI, TO, i1, i2] z (fun i h => IsZip h z TI TO .none ∧ IsTupOf2 h TI (.ref i1) (.ref i2) ∧ (∃ x y, IsTupOf2 h TO x y) ∧ ItB b1 h i1 a i ∧ ItB b2 h i2 b i) where
  mem := by simp
  obj := fun i h st c hc => by
    obtain ⟨hz, hTI, ⟨x, y, hTO⟩, h1, h2⟩ := st
    have e' : c = z ∨ c = TI ∨ c = TO ∨ c = i1 ∨ c = i2 := by simpa using hc
    rcases e' with q | q | q | q | q
    · rw [q]; exact ⟨_, hz, fun v q => nomatch q⟩
    · rw [q]; exact ⟨_, hTI, fun v q => nomatch q⟩
    · rw [q]; exact ⟨_, hTO, fun v q => nomatch q⟩
    · rw [q]; exact h1.obj
    · rw [q]; exact h2.obj
  keep := fun i h h' st k => by
    obtain ⟨hz, hTI, ⟨x, y, hTO⟩, h1, h2⟩ := st
    exact ⟨k z (by simp) _ hz, k TI (by simp) _ hTI, ⟨x, y, k TO (by simp) _ hTO⟩, h1.at' fun o q => k i1 (by simp) o q, h2.at' fun o q => k i2 (by simp) o q⟩
  item := by
    intro X hP hw hK hc i pins s σ H E I hf st hg
    subst hP hw hK
    obtain ⟨hz, hTI, ⟨x0, y0, hTO⟩, h1, h2⟩ := st
    obtain ⟨xs, ys, x, y, hqx, hqy, hx, hy⟩ := hg
    obtain ⟨its, rv, p⟩ := hqx.inv I
    obtain ⟨its2, rv2, p2⟩ := hqy.inv I
    obtain ⟨u, hu, ru⟩ := rv.get hx
    obtain ⟨u2, hu2, ru2⟩ := rv2.get hy
    have hzl : z < s.heap.objs.size := Heap.lt_size hz
    have hi1 : i < its.toArray.size := by have := (List.getElem?_eq_some_iff.mp hu).1; simpa using this
    have hi2 : i < its2.toArray.size := by have := (List.getElem?_eq_some_iff.mp hu2).1; simpa using this
    have la := p.lt
    have lb := p2.lt
    refine wpAny_pyNext_zipD2_item (sep2_of D) (drawB (A := X.A.in1) (show X.A.in1.handled = none from I.ok.hd hc) b1 i1 a D.l1i1 its.toArray) (drawB (A := X.A.in1) (show X.A.in1.handled = none from I.ok.hd hc) b2 i2 b D.l2i2 its2.toArray) hz hTI hTO ⟨h1, p⟩ ⟨h2, p2⟩ hi1 hi2 fun u' u2' h' tk hu' hu2' z' TO' st1 st2 hT hsz hk => ?_
    have eu : u' = u := by
      have : its[i]? = some u' := by simpa using hu'
      rw [hu] at this
      exact (Option.some.inj this).symm
    have eu2 : u2' = u2 := by
      have : its2[i]? = some u2' := by simpa using hu2'
      rw [hu2] at this
      exact (Option.some.inj this).symm
    subst eu eu2
    refine ⟨_, rfl, wpAny_letOwnedTupleGo_zip (s := { s with heap := h', toks := tk }) z' fun h'' z'' sb => ?_⟩
    have hT2 : h''.get? s.heap.objs.size = some { cls := .type "tuple", data := .seq #[u', u2'] } := (sb.2 _ (Nat.ne_of_gt hzl)).trans hT
    have new : ObjOk X.prog X.w (upd H s.heap.objs.size (.tup [x, y])) h'' s.heap.objs.size (.tup [x, y]) :=
      ⟨by show 2 ≤ sizeLine; decide, [u', u2'], .cons ru (.cons ru2 .nil), ⟨_, hT2, rfl, _, rfl⟩⟩
    have I1 : L2.Inv X pins σ (upd H s.heap.objs.size (.tup [x, y])) { s with heap := h'', toks := tk } :=
      I.turnedNew (t' := tk) (ch := [z, TI, TO, i1, i2]) (fun c o hb q => (sb.2 c (fun q' => hb (by simp [q']))).trans (hk c o (fun q' => hb (by simp [q'])) (fun q' => hb (by simp [q'])) (fun q' => hb (by simp [q'])) (fun q' => hb (by simp [q'])) q)) hf (Nat.le_refl _) new
    refine ⟨.ref s.heap.objs.size, _, I1, rfl, ⟨_, x, y, rfl, I.hok.fresh (Nat.le_refl _), rfl, fun l hl => by rw [hl.inj I hqx]; exact hx, fun l hl => by rw [hl.inj I hqy]; exact hy⟩, ⟨z'', ?_, ⟨u', u2', ?_⟩, ?_, ?_⟩, fun c hcm => ?_⟩
    · exact (sb.2 _ D.TIz).trans (hk _ _ D.TIz D.TITO D.TIi1 D.TIi2 hTI)
    · exact (sb.2 _ D.TOz).trans TO'
    · exact st1.1.at' fun o q => (sb.2 _ D.i1z).trans q
    · exact st2.1.at' fun o q => (sb.2 _ D.i2z).trans q
    · have hlt : c < s.heap.objs.size := by
        have e' : c = z ∨ c = TI ∨ c = TO ∨ c = i1 ∨ c = i2 := by simpa using hcm
        rcases e' with q | q | q | q | q
        · rw [q]; exact hzl
        · rw [q]; exact Heap.lt_size hTI
        · rw [q]; exact Heap.lt_size hTO
        · rw [q]; exact h1.lt
        · rw [q]; exact h2.lt
      rw [upd_ne (Nat.ne_of_lt hlt)]
      exact (hf c hcm).1
  done := by
    intro X hP hw hK hc i pins s σ H E I hf st hg
    subst hP hw hK
    obtain ⟨hz, hTI, ⟨x0, y0, hTO⟩, h1, h2⟩ := st
    obtain ⟨xs, ys, hqx, hqy, l1, l2, hend⟩ := hg
    obtain ⟨its, rv, p⟩ := hqx.inv I
    obtain ⟨its2, rv2, p2⟩ := hqy.inv I
    have e1 := rv.length
    have e2 := rv2.length
    exact wpAny_pyNext_zipD2_end (sep2_of D) (drawB (A := X.A.in1) (show X.A.in1.handled = none from I.ok.hd hc) b1 i1 a D.l1i1 its.toArray) (drawB (A := X.A.in1) (show X.A.in1.handled = none from I.ok.hd hc) b2 i2 b D.l2i2 its2.toArray) hz hTI hTO ⟨h1, p⟩ ⟨h2, p2⟩ (by simp; omega) (by simp; omega) (by simp; omega)
      fun h' tk hk => ⟨rfl, I.turnedL (t' := tk) (ch := [z, TI, TO, i1, i2]) (fun c o hb q => hk c o (fun q' => hb (by simp [q'])) (fun q' => hb (by simp [q'])) (fun q' => hb (by simp [q'])) (fun q' => hb (by simp [q'])) q) hf⟩
  self := fun A i s Q E st h => wpAny_pyIter_zip st.1 h
def ZipB (K : PySem.W.Frag) (vs : List V) (H : Hp) (R : It → Hp → Prop) : Prop := ∃ (b1 b2 : Bool) (a b : Addr), vs = [.ref a, .ref b] ∧ (∃ xs, SqB K H b1 a xs) ∧ (∃ ys, SqB K H b2 b ys) ∧ R (ItzB K b1 b2 a b) H
def iZipB (K : PySem.W.Frag) (ta : TA) : TI := fun σ H R => ta σ H fun vs H1 => ZipB K vs H1 R
theorem pi_zipB {X : Cx} {K : PySem.W.Frag} {e e2 : Expr} {ta : TA} {p pos tpos : Pos} {elts : List Expr} {kk : Nat} (hg : Gl X "zip") (hm : X.mg "zip" = none) (ha : PA X [e, e2] ta)
    (hs : starEach [e, e2] X.env = (false, eval e X.env) :: starEach [e2] X.env := by rfl) (hpl : (backTo pos (starEach [e2] X.env)).any (·.1) = false := by rfl) (hK : X.K = K := by rfl) :
    PI X (.Tuple elts kk tpos) (.Call (.Name "zip" p) [e, e2] [] pos) (iZipB K ta) := by
  subst hK
  refine ⟨fun pins s σ H R I h => ?_⟩
  refine Call_ (ld_blt I hg hm PyProof.Rows.boot_zip (PyProof.Rows.callWith_type1 (thn (ha.run pos pins s σ H _ I h) fun us s1 ⟨vs, H1, I1, r1, q1⟩ => ?_) hs hpl))
  obtain ⟨b1, b2, a, b, ex, ⟨xs, hqx⟩, ⟨ys, hqy⟩, q⟩ := q1
  subst ex
  obtain ⟨u1, u2, rfl, r1, r2⟩ := Vals.two r1
  obtain rfl : u1 = Value.ref a := r1
  obtain rfl : u2 = Value.ref b := r2
  obtain ⟨its, rv, p1⟩ := hqx.inv I1
  obtain ⟨its2, rv2, p2⟩ := hqy.inv I1
  have la := p1.lt
  have lb := p2.lt
  refine zip_begins2 (begB b1 a its.toArray) (begB b2 b its2.toArray) p1 p2 fun h' hz hTI hTO h1 h2 hsz hk => wpAny_pyIter_zip hz ?_
  have I2 : L2.Inv X pins σ H1 { s1 with heap := h' } := I1.kept (t' := s1.toks) hk
  refine ⟨s1.heap.objs.size + 4, [s1.heap.objs.size + 4, s1.heap.objs.size + 2, s1.heap.objs.size + 3, s1.heap.objs.size, s1.heap.objs.size + 1], _, _, H1, rfl, I2, turn_zipB (PySem.W.ktu_apart s1.heap.objs.size a b la lb), ⟨hz, hTI, ⟨_, _, hTO⟩, itO_at h1, itO_at h2⟩, fun c hcm => ?_, q⟩
  have e' : c = s1.heap.objs.size + 4 ∨ c = s1.heap.objs.size + 2 ∨ c = s1.heap.objs.size + 3 ∨ c = s1.heap.objs.size ∨ c = s1.heap.objs.size + 1 := by simpa using hcm
  have hle : s1.heap.objs.size ≤ c := by
    rcases e' with z | z | z | z | z
    · rw [z]; exact Nat.le_add_right _ _
    · rw [z]; exact Nat.le_add_right _ _
    · rw [z]; exact Nat.le_add_right _ _
    · rw [z]; exact Nat.le_refl _
    · rw [z]; exact Nat.le_add_right _ _
  exact I1.fpOk hle (I1.hok.fresh hle)
theorem v_zipB {K : PySem.W.Frag} {ta : TA} {σ : L2.St} {H : Hp} {R : It → Hp → Prop} (h : ta σ H fun vs H1 => ZipB K vs H1 R) : iZipB K ta σ H R := h
theorem v_zip_ll {K : PySem.W.Frag} {H : Hp} {R : It → Hp → Prop} {a b : Addr} {xs ys : List V} (h1 : SqL K H a xs) (h2 : SqL K H b ys) (h : R (ItzB K false false a b) H) : ZipB K [.ref a, .ref b] H R := ⟨false, false, a, b, rfl, ⟨xs, h1⟩, ⟨ys, h2⟩, h⟩
theorem v_zip_tt {K : PySem.W.Frag} {H : Hp} {R : It → Hp → Prop} {a b : Addr} {xs ys : List V} (h1 : SqT K H a xs) (h2 : SqT K H b ys) (h : R (ItzB K true true a b) H) : ZipB K [.ref a, .ref b] H R := ⟨true, true, a, b, rfl, ⟨xs, h1⟩, ⟨ys, h2⟩, h⟩
theorem v_zip_lt {K : PySem.W.Frag} {H : Hp} {R : It → Hp → Prop} {a b : Addr} {xs ys : List V} (h1 : SqL K H a xs) (h2 : SqT K H b ys) (h : R (ItzB K false true a b) H) : ZipB K [.ref a, .ref b] H R := ⟨false, true, a, b, rfl, ⟨xs, h1⟩, ⟨ys, h2⟩, h⟩
section
variable {g : TG} {tb : TS} {n : L2.St → Hp → Prop} {r : VK} {b c : L2.St → Hp → Prop} {σ : L2.St} {H : Hp} {K : PySem.W.Frag}
theorem v_for_zipB {b1 b2 : Bool} {a1 a2 : Addr} {xs ys : List V} (Pv : Nat → L2.St → Hp → Prop) (h0 : Pv 0 σ H) (hl : ∀ i σ H, Pv i σ H → SqB K H b1 a1 xs ∧ SqB K H b2 a2 ys)
    (hs : ∀ i x y σ H t H', xs[i]? = some x → ys[i]? = some y → Pv i σ H → H t = none → Chg [] H H' → H' t = some (.tup [x, y]) → g (.ref t) σ H' fun σ2 H2 => tb ⟨Pv (i + 1), r, n, Pv (i + 1)⟩ σ2 H2)
    (hd : ∀ σ H, Pv (min xs.length ys.length) σ H → n σ H) : ForQ (ItzB K b1 b2 a1 a2) g tb ⟨n, r, b, c⟩ σ H := by
  refine ⟨fun i m σ H => Pv i σ H ∧ i + m = min xs.length ys.length, ⟨_, h0, Nat.zero_add _⟩, ?_⟩
  rintro i m σ H ⟨hp, hm⟩
  obtain ⟨hq1, hq2⟩ := hl i σ H hp
  by_cases hi : i < min xs.length ys.length
  · refine .inr ⟨⟨xs, ys, xs[i]'(by omega), ys[i]'(by omega), hq1, hq2, List.getElem?_eq_getElem (by omega), List.getElem?_eq_getElem (by omega)⟩, Pv (i + 1), fun σ' H' h => ⟨m - 1, by omega, h, by omega⟩, ?_⟩
    rintro v H' ⟨T, x, y, rfl, hT, rfl, hx, hy⟩
    exact hs i x y σ H T _ (hx xs hq1) (hy ys hq2) hp hT (.new hT) upd_same
  · have e : i = min xs.length ys.length := by omega
    exact .inl ⟨⟨xs, ys, hq1, hq2, by omega, by omega, by omega⟩, by subst e; exact hd σ H hp⟩
end
end RT

namespace RT
open PySem PySem.Spec PyProof.Rows L2
/-! ## 14. texts -/
theorem ofString_inj {a b : String} : (Str.ofString a = Str.ofString b) = (a = b) := by
  apply propext
  constructor
  · intro h
    have h1 : (cpsOfBytes 0 0 a.toByteArray.data.toList).toArray = (cpsOfBytes 0 0 b.toByteArray.data.toList).toArray := congrArg Str.cps h
    have h2 := congrArg Array.toList h1
    rw [cpsOfBytes_string, cpsOfBytes_string] at h2
    have h3 : a.toList = b.toList := (List.map_inj_right (fun x y e => Char.toNat_inj.mp e)).mp h2
    exact String.toList_inj.mp h3
  · rintro rfl; rfl
theorem ofString_cps (a : String) : (Str.ofString a).cps.toList = a.toList.map Char.toNat := by
  show (cpsOfBytes 0 0 a.toByteArray.data.toList).toArray.toList = _
  rw [← cpsOfBytes_string]
/-! ## 15. data: tuples of what never changes -/
inductive D where
  | non
  | bl (b : Bool)
  | int (i : Int)
  | str (s : Str)
  | tup (xs : List D)
mutual
def D.py : D → PyData
  | .non => .none
  | .bl b => .bool b
  | .int i => .int i
  | .str s => .str s
  | .tup xs => .tuple (D.pys xs)
def D.pys : List D → List PyData
  | [] => []
  | x :: xs => x.py :: D.pys xs
end
theorem D.pys_eq : ∀ xs : List D, D.pys xs = xs.map D.py
  | [] => rfl
  | x :: xs => by rw [D.pys, D.pys_eq xs]; rfl
mutual
def D.dep : D → Nat
  | .tup xs => D.deps xs + 1
  | _ => 0
def D.deps : List D → Nat
  | [] => 0
  | x :: xs => max x.dep (D.deps xs)
end
mutual
theorem D.depth_py : ∀ d : D, PyData.depth d.py = d.dep
  | .non => rfl
  | .bl _ => rfl
  | .int _ => rfl
  | .str _ => rfl
  | .tup xs => by rw [D.py, PyData.depth, D.dep, D.depth_pys xs]
theorem D.depth_pys : ∀ xs : List D, PyData.depthAll (D.pys xs) = D.deps xs
  | [] => rfl
  | x :: xs => by rw [D.pys, PyData.depthAll, D.deps, D.depth_py x, D.depth_pys xs]
end
theorem D.deps_le {xs : List D} {n : Nat} (h : ∀ x ∈ xs, x.dep ≤ n) : D.deps xs ≤ n := by
  induction xs with
  | nil => exact Nat.zero_le _
  | cons x xs ih =>
    rw [D.deps]
    have h1 := h x List.mem_cons_self
    have h2 := ih fun y hy => h y (List.mem_cons_of_mem _ hy)
    omega
theorem D.dep_mem {xs : List D} {x : D} (h : x ∈ xs) : x.dep ≤ D.deps xs := by
  induction xs with
  | nil => cases h
  | cons y xs ih =>
    rw [D.deps]
    rcases List.mem_cons.mp h with rfl | h
    · omega
    · have := ih h; omega
/-! v stands for d -/
mutual
inductive Rp (H : Hp) : V → D → Prop
  | non : Rp H .non .non
  | bl (b : Bool) : Rp H (.bl b) (.bl b)
  | int (i : Int) : Rp H (.int i) (.int i)
  | str {s : Str} (h : PyData.strOk s = true) : Rp H (.str s) (.str s)
  | tup {a : Addr} {xs : List V} {ds : List D} : H a = some (.tup xs) → RpA H xs ds → Rp H (.ref a) (.tup ds)
inductive RpA (H : Hp) : List V → List D → Prop
  | nil : RpA H [] []
  | cons {x : V} {xs : List V} {d : D} {ds : List D} : Rp H x d → RpA H xs ds → RpA H (x :: xs) (d :: ds)
end
mutual
theorem Rp.chg {S : List Addr} {H H' : Hp} (c : Chg S H H') : ∀ (d : D) (v : V), Rp H v d → Rp H' v d
  | .non, _, h => by cases h; exact .non
  | .bl b, _, h => by cases h; exact .bl b
  | .int i, _, h => by cases h; exact .int i
  | .str s, _, h => by cases h with | str h => exact .str h
  | .tup ds, _, h => by cases h with | tup e r => exact .tup (c.tup e) (RpA.chg c ds _ r)
theorem RpA.chg {S : List Addr} {H H' : Hp} (c : Chg S H H') : ∀ (ds : List D) (xs : List V), RpA H xs ds → RpA H' xs ds
  | [], _, h => by cases h; exact .nil
  | d :: ds, _, h => by cases h with | cons r t => exact .cons (Rp.chg c d _ r) (RpA.chg c ds _ t)
end
theorem Rp.on {S : List Addr} {H H' : Hp} {v : V} {d : D} (h : Rp H v d) (c : Chg S H H') : Rp H' v d := Rp.chg c d v h
theorem RpA.on {S : List Addr} {H H' : Hp} {xs : List V} {ds : List D} (h : RpA H xs ds) (c : Chg S H H') : RpA H' xs ds := RpA.chg c ds xs h
mutual
theorem Rp.dp {K : PySem.W.Frag} {H : Hp} : ∀ (d : D) (v : V), Rp H v d → L2.Dp K H v d.py
  | .non, _, h => by cases h; exact .non
  | .bl b, _, h => by cases h; exact .bl b
  | .int i, _, h => by cases h; exact .int i
  | .str s, _, h => by cases h with | str h => exact .str s
  | .tup ds, _, h => by cases h with | tup e r => rw [D.py]; exact .tup (SqT.of e) (RpA.dp ds _ r)
theorem RpA.dp {K : PySem.W.Frag} {H : Hp} : ∀ (ds : List D) (xs : List V), RpA H xs ds → L2.DpAll K H xs (D.pys ds)
  | [], _, h => by cases h; exact .nil
  | d :: ds, _, h => by cases h with | cons r t => exact .cons (Rp.dp d _ r) (RpA.dp ds _ t)
end
mutual
theorem Rp.lay {H : Hp} : ∀ (d : D) (v : V), Rp H v d → PyData.canLay0 d.py = true
  | .non, _, h => rfl
  | .bl b, _, h => rfl
  | .int i, _, h => rfl
  | .str s, _, h => by cases h with | str h => exact h
  | .tup ds, _, h => by cases h with | tup e r => rw [D.py, PyData.canLay0]; exact RpA.lay ds _ r
theorem RpA.lay {H : Hp} : ∀ (ds : List D) (xs : List V), RpA H xs ds → PyData.canLayAll0 (D.pys ds) = true
  | [], _, h => rfl
  | d :: ds, _, h => by cases h with | cons r t => rw [D.pys, PyData.canLayAll0, Rp.lay d _ r, RpA.lay ds _ t]; rfl
end
theorem Rp.shaped {H : Hp} {v : V} {d : D} (h : Rp H v d) (hd : d.dep ≤ 64) : SeqAt.shaped d.py = true := by
  unfold SeqAt.shaped
  rw [Rp.lay d v h, D.depth_py, Bool.true_and]
  exact decide_eq_true hd
theorem RpA.shapedL {H : Hp} {xs : List V} {ds : List D} (h : RpA H xs ds) (hd : D.deps ds ≤ 63) : SeqAt.shaped (.list (D.pys ds)) = true := by
  unfold SeqAt.shaped
  rw [PyData.canLay0, RpA.lay ds xs h, PyData.depth, D.depth_pys, Bool.true_and]
  exact decide_eq_true (by omega)
theorem RpA.length {H : Hp} {xs : List V} {ds : List D} (h : RpA H xs ds) : xs.length = ds.length := by
  induction ds generalizing xs with
  | nil => cases h; rfl
  | cons d ds ih => cases h with | cons r t => rw [List.length_cons, List.length_cons, ih t]
theorem RpA.get {H : Hp} {xs : List V} {ds : List D} (h : RpA H xs ds) {i : Nat} {x : V} (e : xs[i]? = some x) : ∃ d, ds[i]? = some d ∧ Rp H x d := by
  induction ds generalizing xs i with
  | nil => cases h; simp at e
  | cons d ds ih =>
    cases h with
    | cons r t =>
      cases i with
      | zero => simp at e; subst e; exact ⟨d, by simp, r⟩
      | succ i => simp at e; simpa using ih t e
theorem RpA.getD {H : Hp} {xs : List V} {ds : List D} (h : RpA H xs ds) {i : Nat} {d : D} (e : ds[i]? = some d) : ∃ x, xs[i]? = some x ∧ Rp H x d := by
  induction ds generalizing xs i with
  | nil => simp at e
  | cons d' ds ih =>
    cases h with
    | cons r t =>
      cases i with
      | zero => simp at e; subst e; exact ⟨_, by simp, r⟩
      | succ i => simp at e; simpa using ih t e
theorem RpA.app {H : Hp} {xs ys : List V} {ds es : List D} (h : RpA H xs ds) (h' : RpA H ys es) : RpA H (xs ++ ys) (ds ++ es) := by
  induction ds generalizing xs with
  | nil => cases h; exact h'
  | cons d ds ih => cases h with | cons r t => exact .cons r (ih t)
theorem RpA.one {H : Hp} {x : V} {d : D} (h : Rp H x d) : RpA H [x] [d] := .cons h .nil
theorem RpA.snoc {H : Hp} {xs : List V} {ds : List D} {x : V} {d : D} (h : RpA H xs ds) (h' : Rp H x d) : RpA H (xs ++ [x]) (ds ++ [d]) := h.app (.one h')
theorem RpA.take {H : Hp} {xs : List V} {ds : List D} (h : RpA H xs ds) (n : Nat) : RpA H (xs.take n) (ds.take n) := by
  induction n generalizing xs ds with
  | zero => exact .nil
  | succ n ih =>
    cases ds with
    | nil => cases h; exact .nil
    | cons d ds => cases h with | cons r t => exact .cons r (ih t)
theorem RpA.drop {H : Hp} {xs : List V} {ds : List D} (h : RpA H xs ds) (n : Nat) : RpA H (xs.drop n) (ds.drop n) := by
  induction n generalizing xs ds with
  | zero => exact h
  | succ n ih =>
    cases ds with
    | nil => cases h; exact .nil
    | cons d ds => cases h with | cons r t => exact ih t
def cutL {α : Type} (xs : List α) (lo hi : Option Int) : List α := (xs.drop (HT.sIx xs.length 0 lo)).take (HT.sIx xs.length xs.length hi - HT.sIx xs.length 0 lo)
theorem RpA.cut {H : Hp} {xs : List V} {ds : List D} (h : RpA H xs ds) (lo hi : Option Int) : RpA H (cutV xs lo hi) (cutL ds lo hi) := by
  unfold cutV cutL
  rw [h.length]
  exact (h.drop _).take _
theorem RpA.mem {H : Hp} {xs : List V} {ds : List D} (h : RpA H xs ds) {x : V} (m : x ∈ xs) : ∃ d, d ∈ ds ∧ Rp H x d := by
  obtain ⟨i, hi, e⟩ := List.getElem_of_mem m
  obtain ⟨d, e', r⟩ := h.get (List.getElem?_eq_some_iff.mpr ⟨hi, e⟩)
  exact ⟨d, List.mem_of_getElem? e', r⟩
theorem RpA.perm {H : Hp} {xs ys : List V} (p : ys.Perm xs) : ∀ {ds : List D}, RpA H xs ds → ∃ es, RpA H ys es ∧ es.Perm ds := by
  induction p with
  | nil => intro ds h; cases h; exact ⟨[], .nil, .nil⟩
  | cons x _ ih => intro ds h; cases h with | cons r t => obtain ⟨es, h1, h2⟩ := ih t; exact ⟨_ :: es, .cons r h1, .cons _ h2⟩
  | swap x y l => intro ds h; cases h with | cons r t => cases t with | cons r2 t2 => exact ⟨_, .cons r2 (.cons r t2), .swap ..⟩
  | trans _ _ ih1 ih2 => intro ds h; obtain ⟨es, h1, h2⟩ := ih2 h; obtain ⟨fs, h3, h4⟩ := ih1 h1; exact ⟨fs, h3, h4.trans h2⟩
/-- == of data -/
def D.eqv (d e : D) : Bool := PyData.eqv d.py e.py
theorem Rp.eqv_refl {H : Hp} {v : V} {d : D} (h : Rp H v d) : D.eqv d d = true := PySem.SeqAt.eqv_refl _ (Rp.lay d v h)
section
variable {H : Hp} {Q : VK} {K : PySem.W.Frag} {x y : V} {d e : D} {a b : Addr} {xs ys : List V} {ds es : List D}
theorem v_eq_D (h1 : Rp H x d) (h2 : Rp H y e) (l1 : d.dep ≤ 64) (l2 : e.dep ≤ 64) (q : Q (.bl (D.eqv d e)) H) : uEq K x y H Q := v_eq_d (Rp.dp d x h1) (Rp.dp e y h2) (h1.shaped l1) (h2.shaped l2) q
theorem v_ne_D (h1 : Rp H x d) (h2 : Rp H y e) (l1 : d.dep ≤ 64) (l2 : e.dep ≤ 64) (q : Q (.bl (!D.eqv d e)) H) : uNe K x y H Q := v_ne_d (Rp.dp d x h1) (Rp.dp e y h2) (h1.shaped l1) (h2.shaped l2) q
theorem v_eq_Dr (h1 : Rp H x d) (h2 : Rp H y d) (l1 : d.dep ≤ 64) (q : Q (.bl true) H) : uEq K x y H Q := v_eq_D h1 h2 l1 l1 (by rw [h1.eqv_refl]; exact q)
theorem v_ne_Dr (h1 : Rp H x d) (h2 : Rp H y d) (l1 : d.dep ≤ 64) (q : Q (.bl false) H) : uNe K x y H Q := v_ne_D h1 h2 l1 l1 (by rw [h1.eqv_refl]; exact q)
/-- lists of data -/
theorem v_eq_Lr (h1 : SqL K H a xs) (h2 : SqL K H b ys) (r1 : RpA H xs ds) (r2 : RpA H ys ds) (l1 : D.deps ds ≤ 63) (q : Q (.bl true) H) : uEq K (.ref a) (.ref b) H Q :=
  v_eq_d (.lst h1 (RpA.dp ds xs r1)) (.lst h2 (RpA.dp ds ys r2)) (r1.shapedL l1) (r2.shapedL l1) (by rw [PyData.eqv, PySem.SeqAt.eqvAll_refl _ (RpA.lay ds xs r1)]; exact q)
theorem v_ne_Lr (h1 : SqL K H a xs) (h2 : SqL K H b ys) (r1 : RpA H xs ds) (r2 : RpA H ys ds) (l1 : D.deps ds ≤ 63) (q : Q (.bl false) H) : uNe K (.ref a) (.ref b) H Q :=
  v_ne_d (.lst h1 (RpA.dp ds xs r1)) (.lst h2 (RpA.dp ds ys r2)) (r1.shapedL l1) (r2.shapedL l1) (by rw [PyData.eqv, PySem.SeqAt.eqvAll_refl _ (RpA.lay ds xs r1)]; exact q)
end
/-! ## 16. keys as data -/
def keyD : Key → D
  | .inl i => .int i
  | .inr s => .str s
def keyOkB : Key → Bool
  | .inl _ => true
  | .inr s => PyData.strOk s
theorem rp_key {H : Hp} {k : Key} (h : keyOkB k = true) : Rp H (kV k) (keyD k) := by
  cases k with
  | inl i => exact .int i
  | inr s => exact .str h
theorem rpA_keys {H : Hp} : ∀ {ks : List Key}, ks.all keyOkB = true → RpA H (ks.map kV) (ks.map keyD)
  | [], _ => .nil
  | k :: ks, h => by
    rw [List.all_cons, Bool.and_eq_true] at h
    exact .cons (rp_key h.1) (rpA_keys h.2)
theorem eqv_key (k l : Key) : PyData.eqv (keyD k).py (keyD l).py = decide (k = l) := by
  cases k <;> cases l
  · rename_i i j
    show (i == j) = _
    by_cases h : i = j
    · subst h; simp
    · have : (Sum.inl i : Key) ≠ Sum.inl j := fun e => h (Sum.inl.inj e)
      simp [h]
  · rfl
  · rfl
  · rename_i i j
    show (i == j) = _
    by_cases h : i = j
    · subst h; simp
    · simp [h]
theorem eqv_keys : ∀ ks ls : List Key, PyData.eqvAll (D.pys (ks.map keyD)) (D.pys (ls.map keyD)) = decide (ks = ls)
  | [], [] => rfl
  | [], _ :: _ => rfl
  | _ :: _, [] => rfl
  | k :: ks, l :: ls => by
    show (PyData.eqv (keyD k).py (keyD l).py && PyData.eqvAll (D.pys (ks.map keyD)) (D.pys (ls.map keyD))) = _
    rw [eqv_key, eqv_keys]
    by_cases h : k = l
    · subst h; simp
    · simp [h]
theorem dep_keys (ks : List Key) : D.deps (ks.map keyD) = 0 := by
  have := D.deps_le (xs := ks.map keyD) (n := 0) fun x hx => by
    obtain ⟨k, _, rfl⟩ := List.mem_map.mp hx
    cases k <;> exact Nat.le_refl 0
  omega
/-- tuples of keys -/
inductive Cls (H : Hp) : List V → List (List Key) → Prop
  | nil : Cls H [] []
  | cons {t : Addr} {xs : List V} {k : List Key} {ks : List (List Key)} : H t = some (.tup (k.map kV)) → Cls H xs ks → Cls H (.ref t :: xs) (k :: ks)
theorem Cls.on {S : List Addr} {H H' : Hp} {xs : List V} {ks : List (List Key)} (h : Cls H xs ks) (c : Chg S H H') : Cls H' xs ks := by
  induction h with
  | nil => exact .nil
  | cons e _ ih => exact .cons (c.tup e) ih
theorem Cls.length {H : Hp} {xs : List V} {ks : List (List Key)} (h : Cls H xs ks) : xs.length = ks.length := by
  induction h with
  | nil => rfl
  | cons e _ ih => rw [List.length_cons, List.length_cons, ih]
theorem Cls.app {H : Hp} {xs ys : List V} {ks ls : List (List Key)} (h : Cls H xs ks) (h' : Cls H ys ls) : Cls H (xs ++ ys) (ks ++ ls) := by
  induction h with
  | nil => exact h'
  | cons e _ ih => exact .cons e ih
theorem Cls.snoc {H : Hp} {xs : List V} {ks : List (List Key)} {t : Addr} {k : List Key} (h : Cls H xs ks) (e : H t = some (.tup (k.map kV))) : Cls H (xs ++ [.ref t]) (ks ++ [k]) := h.app (.cons e .nil)
theorem Cls.get {H : Hp} {xs : List V} {ks : List (List Key)} (h : Cls H xs ks) {i : Nat} {x : V} (e : xs[i]? = some x) : ∃ t k, x = .ref t ∧ ks[i]? = some k ∧ H t = some (.tup (k.map kV)) := by
  induction h generalizing i with
  | nil => simp at e
  | cons e' _ ih =>
    cases i with
    | zero => simp at e; subst e; exact ⟨_, _, rfl, by simp, e'⟩
    | succ i => simp at e; simpa using ih e
theorem Cls.mem {H : Hp} {xs : List V} {ks : List (List Key)} (h : Cls H xs ks) {x : V} (m : x ∈ xs) : ∃ t k, x = .ref t ∧ k ∈ ks ∧ H t = some (.tup (k.map kV)) := by
  obtain ⟨i, hi, e⟩ := List.getElem_of_mem m
  obtain ⟨t, k, e1, e2, e3⟩ := h.get (List.getElem?_eq_some_iff.mpr ⟨hi, e⟩)
  exact ⟨t, k, e1, List.mem_of_getElem? e2, e3⟩
theorem Cls.perm {H : Hp} {xs ys : List V} (p : ys.Perm xs) : ∀ {ks : List (List Key)}, Cls H xs ks → ∃ ls, Cls H ys ls ∧ ls.Perm ks := by
  induction p with
  | nil => intro ds h; cases h; exact ⟨[], .nil, .nil⟩
  | cons x _ ih => intro ds h; cases h with | cons r t => obtain ⟨es, h1, h2⟩ := ih t; exact ⟨_ :: es, .cons r h1, .cons _ h2⟩
  | swap x y l => intro ds h; cases h with | cons r t => cases t with | cons r2 t2 => exact ⟨_, .cons r2 (.cons r t2), .swap ..⟩
  | trans _ _ ih1 ih2 => intro ds h; obtain ⟨es, h1, h2⟩ := ih2 h; obtain ⟨fs, h3, h4⟩ := ih1 h1; exact ⟨fs, h3, h4.trans h2⟩
def cellD (k : List Key) : D := .tup (k.map keyD)
theorem rp_cell {H : Hp} {t : Addr} {k : List Key} (e : H t = some (.tup (k.map kV))) (h : k.all keyOkB = true) : Rp H (.ref t) (cellD k) := .tup e (rpA_keys h)
theorem Cls.rpA {H : Hp} {xs : List V} {ks : List (List Key)} (h : Cls H xs ks) (hk : ∀ k ∈ ks, k.all keyOkB = true) : RpA H xs (ks.map cellD) := by
  induction h with
  | nil => exact .nil
  | cons e _ ih => exact .cons (rp_cell e (hk _ List.mem_cons_self)) (ih fun k m => hk k (List.mem_cons_of_mem _ m))
theorem dep_cell (k : List Key) : (cellD k).dep = 1 := by rw [cellD, D.dep, dep_keys]
theorem dep_cells (ks : List (List Key)) : D.deps (ks.map cellD) ≤ 1 := D.deps_le fun x hx => by
  obtain ⟨k, _, rfl⟩ := List.mem_map.mp hx
  rw [dep_cell]; exact Nat.le_refl 1
def inK (k : List Key) (ks : List (List Key)) : Bool := ks.any fun l => decide (l = k)
theorem inK_iff {k : List Key} {ks : List (List Key)} : inK k ks = true ↔ k ∈ ks := by
  unfold inK
  rw [List.any_eq_true]
  constructor
  · rintro ⟨l, h1, h2⟩
    have : l = k := of_decide_eq_true h2
    subst this; exact h1
  · intro h
    exact ⟨k, h, decide_eq_true rfl⟩
theorem any_cells (ks : List (List Key)) (k : List Key) : ((D.pys (ks.map cellD)).any fun z => PyData.eqv z (cellD k).py) = inK k ks := by
  induction ks with
  | nil => rfl
  | cons l ks ih =>
    show (PyData.eqv (cellD l).py (cellD k).py || _) = (decide (l = k) || inK k ks)
    rw [ih, show PyData.eqv (cellD l).py (cellD k).py = decide (l = k) from eqv_keys l k]
section
variable {H : Hp} {Q : VK} {K : PySem.W.Frag} {t b : Addr} {xs : List V} {k : List Key} {ks : List (List Key)}
/-- a tuple of keys in a list of such -/
theorem v_in_cells (h1 : SqL K H b xs) (hc : Cls H xs ks) (h2 : H t = some (.tup (k.map kV))) (hk : k.all keyOkB = true) (hks : ∀ k ∈ ks, k.all keyOkB = true) (q : Q (.bl (inK k ks)) H) : uIn K false (.ref t) (.ref b) H Q :=
  .inl (.inl (.inr ⟨_, _, Rp.dp _ _ (rp_cell h2 hk), .lst h1 (RpA.dp _ _ (hc.rpA hks)), (rp_cell h2 hk).shaped (by rw [dep_cell]; decide), (hc.rpA hks).shapedL (Nat.le_trans (dep_cells ks) (by decide)), by
    show Q (.bl ((D.pys (ks.map cellD)).any fun z => PyData.eqv z (cellD k).py)) H
    rw [any_cells]; exact q⟩))
theorem v_nin_cells (h1 : SqL K H b xs) (hc : Cls H xs ks) (h2 : H t = some (.tup (k.map kV))) (hk : k.all keyOkB = true) (hks : ∀ k ∈ ks, k.all keyOkB = true) (q : Q (.bl (!inK k ks)) H) : uIn K true (.ref t) (.ref b) H Q :=
  .inl (.inl (.inr ⟨_, _, Rp.dp _ _ (rp_cell h2 hk), .lst h1 (RpA.dp _ _ (hc.rpA hks)), (rp_cell h2 hk).shaped (by rw [dep_cell]; decide), (hc.rpA hks).shapedL (Nat.le_trans (dep_cells ks) (by decide)), by
    show Q (.bl (!(D.pys (ks.map cellD)).any fun z => PyData.eqv z (cellD k).py)) H
    rw [any_cells]; exact q⟩))
/-- sorted of them -/
theorem v_sorted_cells (h : SqL K H b xs) (hc : Cls H xs ks) (hf : ∀ k ∈ ks, ∃ z r, k = .inr z :: r) (hl : ∀ k ∈ ks, ∀ l ∈ ks, likeK k l = true)
    (q : ∀ ys ls p H', Cls H ys ls → ls.Perm ks → ls.Pairwise (fun k l => lexK l k = false) → H p = none → Chg [] H H' → H' p = some (.lst ys) → Q (.ref p) H') : uSorted K [.ref b] H Q := by
  classical
  have key : ∀ x ∈ xs, ∃ (t : Addr) (k : List Key), x = .ref t ∧ k ∈ ks ∧ H t = some (.tup (k.map kV)) := fun x m => hc.mem m
  let f : V → List Key := fun x => if h : ∃ (t : Addr) (k : List Key), x = V.ref t ∧ H t = some (.tup (k.map kV)) then h.choose_spec.choose else []
  have kinj : ∀ {k l : List Key}, k.map kV = l.map kV → k = l := by
    intro k
    induction k with
    | nil => intro l e; cases l with
      | nil => rfl
      | cons y l => cases e
    | cons x k ih => intro l e; cases l with
      | nil => cases e
      | cons y l =>
        simp only [List.map_cons, List.cons.injEq] at e
        have : x = y := by cases x <;> cases y <;> simp [kV] at e <;> simp [e]
        rw [this, ih e.2]
  have fk : ∀ {t : Addr} {k : List Key}, H t = some (.tup (k.map kV)) → f (.ref t) = k := by
    intro t k e
    have hex : ∃ (t' : Addr) (k' : List Key), V.ref t = V.ref t' ∧ H t' = some (.tup (k'.map kV)) := ⟨t, k, rfl, e⟩
    have : f (.ref t) = hex.choose_spec.choose := dif_pos hex
    rw [this]
    have k2 : ∀ (a' : Addr) (k' : List Key), V.ref t = V.ref a' ∧ H a' = some (.tup (k'.map kV)) → k' = k := by
      rintro a' k' ⟨e1, e2⟩
      cases e1
      rw [e] at e2
      simp only [Option.some.injEq, HO.tup.injEq] at e2
      exact (kinj e2).symm
    exact k2 _ _ hex.choose_spec.choose_spec
  have kx : ∀ x ∈ xs, f x ∈ ks ∧ ∃ t, x = .ref t ∧ H t = some (.tup ((f x).map kV)) := fun x m => by
    obtain ⟨t, k, rfl, hk, e⟩ := key x m
    rw [fk e]
    exact ⟨hk, t, rfl, e⟩
  refine .inr ⟨b, xs, fun x => (f x).map kV, fun x y => lexK (f x) (f y), rfl, h, fun x m => ?_, .inl fun x m => ?_, swo_lexK f, fun x mx y my => ?_, fun ys p hs hp hn => ?_⟩
  · obtain ⟨_, t, e, e'⟩ := kx x m
    exact ⟨t, e, SqT.of e'⟩
  · obtain ⟨z, r, e⟩ := hf _ (kx x m).1
    exact ⟨z, r.map kV, by show (f x).map kV = _; rw [e]; rfl⟩
  · exact lexV_keys (hl _ (kx x mx).1 _ (kx y my).1)
  · obtain ⟨ls, c1, c2⟩ := Cls.perm hp hc
    refine q ys ls p _ c1 c2 ?_ hn (.new hn) upd_same
    have el : ls = ys.map f := by
      clear hs hp c2
      induction c1 with
      | nil => rfl
      | cons e _ ih => rw [List.map_cons, fk e, ih]
    rw [el, List.pairwise_map]
    exact hs
end
end RT

namespace RT
open PySem PySem.Spec PyProof.Rows L2
/-! ## 17. programs, as data -/
inductive Vl where
  | num (i : Int)
  | box (z : Str)
  | size (z : Str)
  | neg (v : Vl)
  | item (z : Str) (v : Vl)
  | bin (w : Str) (a b : Vl)
def Vl.d : Vl → D
  | .num i => .tup [.str "number", .int i]
  | .box z => .tup [.str "box", .str z]
  | .size z => .tup [.str "size", .str z]
  | .neg v => .tup [.str "not", v.d]
  | .item z v => .tup [.str "item", .str z, v.d]
  | .bin w a b => .tup [.str w, a.d, b.d]
def Vl.dp : Vl → Nat
  | .neg v => v.dp + 1
  | .item _ v => v.dp + 1
  | .bin _ a b => max a.dp b.dp + 1
  | _ => 1
def binW : List Str := ["plus", "minus", "less", "same", "times", "over", "rest"]
def Vl.ok (B L : Str → Prop) : Vl → Prop
  | .num i => 0 ≤ i ∧ i < 1000000
  | .box z => B z
  | .size z => L z
  | .neg v => v.ok B L
  | .item z v => L z ∧ v.ok B L
  | .bin w a b => w ∈ binW ∧ a.ok B L ∧ b.ok B L
inductive Rw where
  | set (x : Str) (v : Vl)
  | push (l : Str) (v : Vl)
  | pop (x l : Str)
  | put (l : Str) (v u : Vl)
  | ask (x d : Str)
  | tell (v : Vl)
  | fail (v : Vl)
  | call (x f : Str) (vs : List Vl)
  | ret (v : Vl)
  | ife (v : Vl) (a b : List Rw)
  | whl (v : Vl) (a : List Rw)
  | tr (a : List Rw) (x : Str) (b : List Rw)
mutual
def Rw.d : Rw → D
  | .set x v => .tup [.str "set", .str x, v.d]
  | .push l v => .tup [.str "push", .str l, v.d]
  | .pop x l => .tup [.str "pop", .str x, .str l]
  | .put l v u => .tup [.str "put", .str l, v.d, u.d]
  | .ask x d => .tup [.str "ask", .str x, .str d]
  | .tell v => .tup [.str "tell", v.d]
  | .fail v => .tup [.str "fail", v.d]
  | .call x f vs => .tup [.str "call", .str x, .str f, .tup (vs.map Vl.d)]
  | .ret v => .tup [.str "return", v.d]
  | .ife v a b => .tup [.str "if", v.d, .tup (Rw.ds a), .tup (Rw.ds b)]
  | .whl v a => .tup [.str "while", v.d, .tup (Rw.ds a)]
  | .tr a x b => .tup [.str "try", .tup (Rw.ds a), .str x, .tup (Rw.ds b)]
def Rw.ds : List Rw → List D
  | [] => []
  | r :: l => r.d :: Rw.ds l
end
theorem Rw.ds_eq : ∀ l : List Rw, Rw.ds l = l.map Rw.d
  | [] => rfl
  | r :: l => by rw [Rw.ds, Rw.ds_eq l]; rfl
mutual
def Rw.dpt : Rw → Nat
  | .ife _ a b => max (Rw.dpts a) (Rw.dpts b) + 1
  | .whl _ a => Rw.dpts a + 1
  | .tr a _ b => max (Rw.dpts a) (Rw.dpts b) + 1
  | _ => 1
def Rw.dpts : List Rw → Nat
  | [] => 0
  | r :: l => max r.dpt (Rw.dpts l)
end
mutual
def Rw.cnt : Rw → Nat
  | .ife _ a b => Rw.cnts a + Rw.cnts b + 1
  | .whl _ a => Rw.cnts a + 1
  | .tr a _ b => Rw.cnts a + Rw.cnts b + 1
  | _ => 1
def Rw.cnts : List Rw → Nat
  | [] => 0
  | r :: l => r.cnt + Rw.cnts l
end
theorem Rw.cnts_app : ∀ (l m : List Rw), Rw.cnts (l ++ m) = Rw.cnts l + Rw.cnts m
  | [], m => by show Rw.cnts m = 0 + _; omega
  | r :: l, m => by show r.cnt + Rw.cnts (l ++ m) = r.cnt + Rw.cnts l + _; rw [Rw.cnts_app l m]; omega
theorem Rw.cnt_pos : ∀ r : Rw, 1 ≤ r.cnt := by
  intro r
  cases r <;> simp [Rw.cnt]
theorem Rw.len_cnts : ∀ l : List Rw, l.length ≤ Rw.cnts l
  | [] => Nat.le_refl _
  | r :: l => by
    have := Rw.len_cnts l
    have := Rw.cnt_pos r
    rw [Rw.cnts, List.length_cons]; omega
theorem Rw.dpt_pos : ∀ r : Rw, 1 ≤ r.dpt := by
  intro r
  cases r <;> simp [Rw.dpt]
theorem Rw.cnts_zero : ∀ l : List Rw, Rw.dpts l = 0 → Rw.cnts l = 0
  | [], _ => rfl
  | r :: l, h => by have := Rw.dpt_pos r; simp only [Rw.dpts] at h; omega
theorem Rw.cnt_plain : ∀ {r : Rw}, r.dpt = 1 → r.cnt = 1
  | .ife v a b, h => by
    simp only [Rw.dpt] at h
    have := Rw.cnts_zero a (by omega); have := Rw.cnts_zero b (by omega)
    simp only [Rw.cnt]; omega
  | .whl v a, h => by
    simp only [Rw.dpt] at h
    have := Rw.cnts_zero a (by omega)
    simp only [Rw.cnt]; omega
  | .tr a x b, h => by
    simp only [Rw.dpt] at h
    have := Rw.cnts_zero a (by omega); have := Rw.cnts_zero b (by omega)
    simp only [Rw.cnt]; omega
  | .set .., _ => rfl
  | .push .., _ => rfl
  | .pop .., _ => rfl
  | .put .., _ => rfl
  | .ask .., _ => rfl
  | .tell .., _ => rfl
  | .fail .., _ => rfl
  | .call .., _ => rfl
  | .ret .., _ => rfl
/-- the names that rows may have -/
structure Nms where
  B : Str → Prop
  L : Str → Prop
  F : Str → Nat → Prop
  Dr : Str → Prop
  ins : Bool
def Vl.ok4 (N : Nms) (v : Vl) : Prop := v.ok N.B N.L ∧ v.dp ≤ 4
mutual
def Rw.ok (N : Nms) : Rw → Prop
  | .set x v => N.B x ∧ v.ok4 N
  | .push l v => N.L l ∧ v.ok4 N
  | .pop x l => N.B x ∧ N.L l
  | .put l v u => N.L l ∧ v.ok4 N ∧ u.ok4 N
  | .ask x d => N.B x ∧ N.Dr d
  | .tell v => v.ok4 N
  | .fail v => v.ok4 N
  | .call x f vs => N.B x ∧ N.F f vs.length ∧ vs.length ≤ 3 ∧ ∀ v ∈ vs, v.ok4 N
  | .ret v => N.ins = true ∧ v.ok4 N
  | .ife v a b => v.ok4 N ∧ Rw.oks N a ∧ Rw.oks N b
  | .whl v a => v.ok4 N ∧ Rw.oks N a
  | .tr a x b => N.B x ∧ Rw.oks N a ∧ Rw.oks N b
def Rw.oks (N : Nms) : List Rw → Prop
  | [] => True
  | r :: l => r.ok N ∧ Rw.oks N l
end
theorem Rw.oks_iff {N : Nms} : ∀ {l : List Rw}, Rw.oks N l ↔ ∀ r ∈ l, r.ok N
  | [] => by simp [Rw.oks]
  | r :: l => by rw [Rw.oks, Rw.oks_iff]; simp
theorem Rw.oks_app {N : Nms} {l m : List Rw} (h : Rw.oks N l) (h' : Rw.oks N m) : Rw.oks N (l ++ m) := by
  rw [Rw.oks_iff] at *
  intro r hr
  exact (List.mem_append.mp hr).elim (h r) (h' r)
theorem Rw.ds_app (l m : List Rw) : Rw.ds (l ++ m) = Rw.ds l ++ Rw.ds m := by rw [Rw.ds_eq, Rw.ds_eq, Rw.ds_eq, List.map_append]
theorem Rw.dpts_app : ∀ (l m : List Rw), Rw.dpts (l ++ m) = max (Rw.dpts l) (Rw.dpts m)
  | [], m => by show Rw.dpts m = max 0 _; omega
  | r :: l, m => by show max r.dpt (Rw.dpts (l ++ m)) = max (max r.dpt (Rw.dpts l)) _; rw [Rw.dpts_app l m]; omega
theorem Rw.dpts_mem {l : List Rw} {r : Rw} (h : r ∈ l) : r.dpt ≤ Rw.dpts l := by
  induction l with
  | nil => cases h
  | cons x l ih =>
    rw [Rw.dpts]
    rcases List.mem_cons.mp h with rfl | h
    · omega
    · have := ih h; omega
theorem Vl.dep : ∀ v : Vl, v.d.dep = v.dp
  | .num _ => rfl
  | .box _ => rfl
  | .size _ => rfl
  | .neg v => by simp [Vl.d, D.dep, D.deps, Vl.dp, Vl.dep v]
  | .item _ v => by simp [Vl.d, D.dep, D.deps, Vl.dp, Vl.dep v]
  | .bin _ a b => by simp [Vl.d, D.dep, D.deps, Vl.dp, Vl.dep a, Vl.dep b]
mutual
theorem Rw.dep_le {N : Nms} : ∀ {r : Rw}, r.ok N → r.d.dep ≤ 4 + 2 * r.dpt
  | .set x v, h => by have := h.2.2; simp [Rw.d, D.dep, D.deps, Rw.dpt, Vl.dep]; omega
  | .push l v, h => by have := h.2.2; simp [Rw.d, D.dep, D.deps, Rw.dpt, Vl.dep]; omega
  | .pop x l, h => by simp [Rw.d, D.dep, D.deps, Rw.dpt]
  | .put l v u, h => by have := h.2.1.2; have := h.2.2.2; simp [Rw.d, D.dep, D.deps, Rw.dpt, Vl.dep]; omega
  | .ask x d, h => by simp [Rw.d, D.dep, D.deps, Rw.dpt]
  | .tell v, h => by have := h.2; simp [Rw.d, D.dep, D.deps, Rw.dpt, Vl.dep]; omega
  | .fail v, h => by have := h.2; simp [Rw.d, D.dep, D.deps, Rw.dpt, Vl.dep]; omega
  | .call x f vs, h => by
    have h3 := h.2.2.2
    have : D.deps (vs.map Vl.d) ≤ 4 := D.deps_le fun y hy => by
      obtain ⟨v, hv, rfl⟩ := List.mem_map.mp hy
      rw [Vl.dep]; exact (h3 v hv).2
    simp [Rw.d, D.dep, D.deps, Rw.dpt]; omega
  | .ret v, h => by have := h.2.2; simp [Rw.d, D.dep, D.deps, Rw.dpt, Vl.dep]; omega
  | .ife v a b, h => by
    have := h.1.2; have := Rw.deps_le h.2.1; have := Rw.deps_le h.2.2
    simp [Rw.d, D.dep, D.deps, Rw.dpt, Vl.dep]; omega
  | .whl v a, h => by
    have := h.1.2; have := Rw.deps_le h.2
    simp [Rw.d, D.dep, D.deps, Rw.dpt, Vl.dep]; omega
  | .tr a x b, h => by
    have := Rw.deps_le h.2.1; have := Rw.deps_le h.2.2
    simp [Rw.d, D.dep, D.deps, Rw.dpt]; omega
theorem Rw.deps_le {N : Nms} : ∀ {l : List Rw}, Rw.oks N l → D.deps (Rw.ds l) ≤ 4 + 2 * Rw.dpts l
  | [], _ => Nat.zero_le _
  | r :: l, h => by
    have := Rw.dep_le h.1; have := Rw.deps_le h.2
    simp only [Rw.ds, D.deps, Rw.dpts]; omega
end
structure Pg where
  bx : List (Str × Int)
  ls : List (Str × List Int)
  fs : List (Str × List Str × List Str × List Rw)
  rows : List Rw
def bxD (p : Str × Int) : D := .tup [.str p.1, .int p.2]
def lsD (p : Str × List Int) : D := .tup [.str p.1, .tup (p.2.map D.int)]
def fnD (f : Str × List Str × List Str × List Rw) : D := .tup [.str f.1, .tup (f.2.1.map D.str), .tup (f.2.2.1.map D.str), .tup (Rw.ds f.2.2.2)]
def Pg.d (p : Pg) : D := .tup [.tup (p.bx.map bxD), .tup (p.ls.map lsD), .tup (p.fs.map fnD), .tup (Rw.ds p.rows)]
theorem rpA_strs {H : Hp} {zs : List Str} (h : ∀ z ∈ zs, PyData.strOk z = true) : RpA H (zs.map V.str) (zs.map D.str) := by
  induction zs with
  | nil => exact .nil
  | cons z zs ih => exact .cons (.str (h z List.mem_cons_self)) (ih fun y hy => h y (List.mem_cons_of_mem _ hy))
theorem rpA_ints {H : Hp} (ns : List Int) : RpA H (ns.map V.int) (ns.map D.int) := by
  induction ns with
  | nil => exact .nil
  | cons z zs ih => exact .cons (.int z) ih
theorem strs_of_rp {H : Hp} : ∀ {zs : List Str} {xs : List V}, RpA H xs (zs.map D.str) → xs = zs.map V.str ∧ ∀ z ∈ zs, PyData.strOk z = true
  | [], _, h => by cases h; exact ⟨rfl, by simp⟩
  | z :: zs, _, h => by
    cases h with
    | cons r t =>
      cases r with
      | str hz =>
        obtain ⟨e, h2⟩ := strs_of_rp t
        refine ⟨by rw [e]; rfl, fun y hy => ?_⟩
        rcases List.mem_cons.mp hy with rfl | hy
        · exact hz
        · exact h2 y hy
theorem ints_of_rp {H : Hp} : ∀ {zs : List Int} {xs : List V}, RpA H xs (zs.map D.int) → xs = zs.map V.int
  | [], _, h => by cases h; rfl
  | z :: zs, _, h => by cases h with | cons r t => cases r; rw [ints_of_rp t]; rfl
theorem wordsOk : ∀ w ∈ ([("number" : Str), "box", "size", "not", "item", "set", "push", "pop", "put", "ask", "tell", "fail", "call", "return", "if", "while", "try", "def", "plus", "minus", "less", "same", "times", "over", "rest", "door", "a", "zz"] : List Str), PyData.strOk w = true := by decide +kernel
theorem Rp.tupI {H : Hp} {v : V} {ds : List D} (h : Rp H v (.tup ds)) : ∃ a xs, v = .ref a ∧ H a = some (.tup xs) ∧ RpA H xs ds := by
  cases h with
  | tup e r => exact ⟨_, _, rfl, e, r⟩
section
variable {H : Hp} {Q : VK} {K : PySem.W.Frag}
theorem v_ix_strs {a : Addr} {zs : List Str} {i : Int} (h : SqL K H a (zs.map V.str)) (h0 : 0 ≤ i) (h1 : i < zs.length) (q : ∀ z, z ∈ zs → Q (.str z) H) : uIx K (.ref a) (.int i) H Q :=
  v_ix_lany h h0 (by rw [List.length_map]; exact h1) fun v hv => by
    obtain ⟨z, hz, rfl⟩ := List.mem_map.mp (List.mem_of_getElem? hv)
    exact q z hz
end
end RT

/-! ## 18. sets of texts: walked and sorted (after the rules for sets of ints) -/
namespace RT
open PySem PySem.Spec PyProof.Rows L2
def keyS (e : Int × Value) : Str := match e.2 with | .str k _ => k | _ => ⟨#[]⟩
def GoodS (w : World) (e : Int × Value) : Prop := ∃ k tk, e.2 = Value.str k tk ∧ e.1 = hashStr w k
def SetS (w : World) (h : Heap) (a : Addr) (S : Str → Bool) (n : Nat) : Prop :=
  ∃ o es ep t, h.get? a = some o ∧ o.ExactSet ∧ o.data = .set es ep t ∧ (∀ e ∈ es.toList, GoodS w e) ∧ (es.toList.map keyS).Nodup ∧ (∀ k, S k = true ↔ k ∈ es.toList.map keyS) ∧
    es.size < scanBound ∧ t.fits es.size = true ∧ es.size = n ∧ Ris t.place.toList ∧ (w.params.followText "set-order" = true ∨ t.led = true)
section
variable {P : Program} {w : World} {h h' : Heap} {a : Addr} {S : Str → Bool} {n : Nat}

theorem SetS.at (R : SetS w h a S n) (k : ∀ o, h.get? a = some o → h'.get? a = some o) : SetS w h' a S n := by
  obtain ⟨o, es, ep, t, ho, r⟩ := R
  exact ⟨o, es, ep, t, k o ho, r⟩
theorem SetS.lt (R : SetS w h a S n) : a < h.objs.size := by
  obtain ⟨o, es, ep, t, ho, r⟩ := R
  exact Heap.lt_size ho
theorem SetS.congr {S' : Str → Bool} (R : SetS w h a S n) (e : ∀ k, S' k = S k) : SetS w h a S' n := by
  have q : S' = S := funext e
  rw [q]; exact R
theorem sgood_elems {l : List (Int × Value)} (g : ∀ e ∈ l, (GoodS w) e) : ElemsOf (PySem.strKind P w) l := fun e he => by
  obtain ⟨k, tk, h1, h2⟩ := g e he
  exact ⟨⟨k, by rw [h1]; exact strKind_is P w k tk, h2⟩, by rw [h1] <;> rfl⟩
theorem sgood_is {e : Int × Value} (g : (GoodS w) e) (k : Str) : (PySem.strKind P w).is k e.2 = true ↔ keyS e = k := by
  obtain ⟨k0, tk, h1, _⟩ := g
  unfold keyS
  rw [h1]
  show ((k0 == k) = true) ↔ k0 = k
  exact beq_iff_eq
theorem sgood_mem {l : List (Int × Value)} (g : ∀ e ∈ l, (GoodS w) e) (k : Str) : k ∈ l.map keyS ↔ ∃ e ∈ l, (PySem.strKind P w).is k e.2 = true := by
  rw [List.mem_map]
  constructor
  · rintro ⟨e, he, q⟩
    exact ⟨e, he, (sgood_is (g e he) k).2 q⟩
  · rintro ⟨e, he, q⟩
    exact ⟨e, he, (sgood_is (g e he) k).1 q⟩
theorem SetS.setOf (R : SetS w h a S n) : h.SetOf (PySem.strKind P w) a S n := by
  obtain ⟨o, es, ep, t, ho, hx, hd, g, nd, hm, hb, hf, hn, _⟩ := R
  exact ⟨o, es, ep, t, ho, hx, hd, sgood_elems g, fun k => (hm k).trans (sgood_mem g k), hb, hf, hn⟩
end
section
variable {P : Program} {w : World} {A : Around} {E : Value → Shared → Prop} {s : Shared} {a : Addr} {S : Str → Bool} {n : Nat}

/-! ### add -/
theorem setS_add_tail {g : Bool → Sem Unit} (hg : ∀ (b : Bool) (s₁ : Shared) (Q' : Unit → Shared → Prop), Q' () s₁ → wpAny (model P w) A (g b) Q' E s₁)
    {o : Obj} {es : Array (Int × Value)} {ep : Nat} {t : SetTable} (ho : s.heap.get? a = some o) (hex : o.ExactSet) (hd : o.data = .set es ep t)
    {es1 : Array (Int × Value)} {t2 : SetTable} {S' : Str → Bool} (g1 : ∀ e ∈ es1.toList, (GoodS w) e) (nd1 : (es1.toList.map keyS).Nodup) (m1 : ∀ k, S' k = true ↔ k ∈ es1.toList.map keyS)
    (hb1 : es1.size < scanBound) (hf2 : t2.fits es1.size = true) (hr : Ris t2.place.toList) (hl : w.params.followText "set-order" = true ∨ t2.led = true) {wasDummy : Bool} {R : Option Bool → Shared → Prop}
    (hR : ∀ h', Heap.SameBut a s.heap h' → SetS w h' a S' es1.size → R (some true) { s with heap := h' }) :
    wpAny (model P w) A (do
        storeSet a es1 t2
        if (!wasDummy && t2.tooFull) = true then do
            g (relayAll t2 es1 (SetTable.grown es1.size)).2.2
            storeSet a (relayAll t2 es1 (SetTable.grown es1.size)).1 (relayAll t2 es1 (SetTable.grown es1.size)).2.1
            pure (some true)
          else pure (some true)) R E s := by
  refine wpAny_bind (wpAny_storeSet_of ho hd ?_ (fits_of_scanBound hb1))
  have ho1 := store_at (es' := es1) (t' := t2) ho hd
  have sb1 := Heap.SameBut.update s.heap a (Obj.putSet es1 t2)
  split
  · have pm := relayAll_perm t2 es1 (SetTable.grown es1.size)
    have hf3 := relayAll_fits t2 es1 (SetTable.grown es1.size)
    have hr3 := relayAll_ris t2 es1 (SetTable.grown es1.size)
    have hl3 := relayAll_led t2 es1 (SetTable.grown es1.size)
    generalize relayAll t2 es1 (SetTable.grown es1.size) = Z at pm hf3 hr3 hl3 ⊢
    obtain ⟨es2, t3, gave⟩ := Z
    dsimp only at pm hf3 hr3 hl3 ⊢
    have hsz : es2.size = es1.size := by rw [← Array.length_toList, pm.length_eq, Array.length_toList]
    have hb2 : es2.size < scanBound := by rw [hsz]; exact hb1
    refine wpAny_bind (hg _ _ _ ?_)
    refine wpAny_bind (wpAny_storeSet_of ho1 rfl ?_ (fits_of_scanBound hb2))
    have ho2 := store_at (es' := es2) (t' := t3) ho1 rfl
    refine wpAny_pure (hR _ (sb1.trans (Heap.SameBut.update _ a _)) ?_)
    exact ⟨_, es2, _, t3, ho2, hex, rfl, fun e he => g1 e (pm.mem_iff.mp he), (pm.map keyS).nodup_iff.mpr nd1, fun k => (m1 k).trans (pm.map keyS).mem_iff.symm, hb2, hf3, hsz, hr3,
      hl.imp id fun z => by rw [hl3]; exact z⟩
  · exact wpAny_pure (hR _ sb1 ⟨_, es1, _, t2, ho1, hex, rfl, g1, nd1, m1, hb1, hf2, rfl, hr, hl⟩)

theorem setS_add_hashed {k : Str} {tk : Tok} {Q : Bool → Shared → Prop} (R : SetS w s.heap a S n) (room : n + 1 < scanBound)
    (hQ : ∀ h', Heap.SameBut a s.heap h' → SetS w h' a (fun j => S j || decide (j = k)) (if S k = true then n else n + 1) → Q (!S k) { s with heap := h' }) :
    wpAny (model P w) A (setAddHashed a (.str k tk) ((PySem.strKind P w).hash k)) Q E s := by
  obtain ⟨o, es, ep, t, ho, hex, hd, g, nd, hm, hb, hf, hn, hr, hl⟩ := R
  have hkey : (PySem.strKind P w).is k (.str k tk) = true := strKind_is P w k tk
  have hsc : (Value.str k tk).scannable = true := rfl
  have hel : ElemsOf (PySem.strKind P w) es.toList := sgood_elems g
  unfold setAddHashed setAddHashedIn
  refine wpAny_holding (wpAny_bind (wpAny_setState_of ho hd hf ?_))
  dsimp only
  rw [byScan_of hsc hb hel]
  simp only [↓reduceIte]
  unfold setAddByScan
  refine wpAny_bind ?_
  refine wpAny_bind (wpAny_rule ?_)
  refine wpAny_bind (wpAny_setScan_of hkey ho hd hf hel ?_)
  cases hfi : List.findIdx? (fun e => (PySem.strKind P w).is k e.2) es.toList with
  | some j =>
    dsimp only
    obtain ⟨hj, pj, _⟩ := List.findIdx?_eq_some_iff_getElem.mp hfi
    have hSk : S k = true := (hm k).2 ((sgood_mem (P := P) (w := w) g k).2 ⟨es.toList[j], List.getElem_mem hj, pj⟩)
    refine wpAny_pure (wpAny_pure ?_)
    have q := hQ s.heap (Heap.SameBut.refl a s.heap) ⟨o, es, ep, t, ho, hex, hd, g, nd, fun i => by
      rw [Bool.or_eq_true, decide_eq_true_eq, ← hm i]
      exact ⟨fun z => z.elim id (fun e => e ▸ hSk), .inl⟩, hb, hf, by rw [if_pos hSk]; exact hn, hr, hl⟩
    rw [hSk] at q
    exact q
  | none =>
    dsimp only
    have hnk : k ∉ es.toList.map keyS := fun z => by
      obtain ⟨e, he, q⟩ := (sgood_mem (P := P) (w := w) g k).1 z
      have c := List.findIdx?_eq_none_iff.mp hfi e he
      rw [q] at c
      cases c
    have hSk : S k = false := by
      cases q : S k with
      | false => rfl
      | true => exact absurd ((hm k).1 q) hnk
    have hgw : ∀ (b : Bool) {s₁ : Shared} {Q' : Unit → Shared → Prop}, Q' () s₁ → wpAny (model P w) A (match b with | true => rule "set.scan.the-table-gave-way" | false => pure ()) Q' E s₁ :=
      fun b s₁ Q' q => by cases b <;> first | exact wpAny_pure q | exact wpAny_rule q
    have pm := layNew_perm t es ((PySem.strKind P w).hash k) (.str k tk)
    have hf1 := layNew_fits t es ((PySem.strKind P w).hash k) (.str k tk)
    have hr1 := layNew_ris t es ((PySem.strKind P w).hash k) (.str k tk) hr
    have hl1 := layNew_led t es ((PySem.strKind P w).hash k) (.str k tk)
    generalize layNew t es ((PySem.strKind P w).hash k) (.str k tk) = Z at pm hf1 hr1 hl1 ⊢
    obtain ⟨es1, t1, wasDummy, gave⟩ := Z
    dsimp only at pm hf1 hr1 hl1 ⊢
    rw [Array.toList_push] at pm
    have pc : es1.toList.Perm (((PySem.strKind P w).hash k, Value.str k tk) :: es.toList) := pm.trans (List.perm_append_singleton _ _)
    have pk : (es1.toList.map keyS).Perm (k :: es.toList.map keyS) := pc.map keyS
    have g1 : ∀ e ∈ es1.toList, (GoodS w) e := fun e he => by
      rcases List.mem_cons.mp (pc.mem_iff.mp he) with z | z
      · rw [z]; exact ⟨k, tk, rfl, rfl⟩
      · exact g e z
    have nd1 : (es1.toList.map keyS).Nodup := pk.nodup_iff.mpr (List.nodup_cons.mpr ⟨hnk, nd⟩)
    have m1 : ∀ i, (S i || decide (i = k)) = true ↔ i ∈ es1.toList.map keyS := fun i => by
      rw [Bool.or_eq_true, decide_eq_true_eq, hm i, pk.mem_iff, List.mem_cons]
      exact Or.comm
    have hsz : es1.size = n + 1 := by rw [← Array.length_toList, pc.length_eq, List.length_cons, Array.length_toList, hn]
    have hb1 : es1.size < scanBound := by rw [hsz]; exact room
    have hled : w.params.followText "set-order" = true ∨ t1.led = true := hl.imp id fun z => by rw [hl1]; exact z
    have fin : ∀ h', Heap.SameBut a s.heap h' → SetS w h' a (fun j => S j || decide (j = k)) es1.size → Q true { s with heap := h' } := fun h' sb r => by
      have q := hQ h' sb
      rw [hSk] at q
      rw [hsz] at r
      exact q r
    refine wpAny_bind (hgw _ ?_)
    split
    · refine wpAny_bind ?_
      rw [hashByValue_scannable 8 hsc]
      refine wpAny_pure ?_
      refine setS_add_tail ?_ ho hex hd g1 nd1 m1 hb1 ?_ ?_ ?_ ?_
      · intro b s₁ Q' q; cases b <;> first | exact wpAny_pure q | exact wpAny_rule q
      · first | (split <;> first | exact hf1 | exact SetTable.fits_plain_off hf1) | exact hf1
      · first | (split <;> exact hr1) | exact hr1
      · first | (split <;> exact hled) | exact hled
      · intro h' sb r; dsimp only; exact wpAny_pure (fin h' sb r)
    · refine wpAny_bind (wpAny_pure ?_)
      simp only [↓reduceIte]
      refine setS_add_tail ?_ ho hex hd g1 nd1 m1 hb1 hf1 hr1 hled ?_
      · intro b s₁ Q' q; cases b <;> first | exact wpAny_pure q | exact wpAny_rule q
      · intro h' sb r; dsimp only; exact wpAny_pure (fin h' sb r)

end

theorem setS_new_at {w : World} {h : Heap} {a : Addr} {ns : List Str} (ho : h.get? a = some { cls := .type "set", dict := none, data := .set #[] 0 (.fresh 0 0 (!w.params.followText "set-order")) }) : SetS w h a (fun j => decide (j ∈ ns.take 0)) 0 :=
  ⟨_, #[], 0, _, ho, ⟨rfl, rfl, rfl⟩, rfl, (fun e he => by simp at he), (by simp), (fun k => by simp), (by decide), (by rfl), rfl, List.Pairwise.nil, by
    show _ ∨ (!w.params.followText "set-order") = true
    cases w.params.followText "set-order"
    · exact .inr rfl
    · exact .inl rfl⟩
section
variable {P : Program} {w : World} {A : Around} {E : Value → Shared → Prop} {s : Shared}
theorem set_update_texts {I : Addr} {fp wr : List Addr} {G : Array GenState → Array GenState → Prop} {n : Nat} {Pv : Nat → Value → Prop} {St : Nat → Shared → Prop} {R : Result → Shared → Prop}
    (W : WalksS P w A.in1 I fp wr G n Pv St) (S : Addr) (hSf : S ∉ fp) (ns : List Str) (hn : n = ns.length) (hb : ns.length + 1 < scanBound) (hval : ∀ i v, Pv i v → ∃ k t, ns[i]? = some k ∧ v = .str k t) :
    ∀ (k i : Nat) (s : Shared), n - i = k → i ≤ n → St i s → (∃ c, c ≤ i ∧ SetS w s.heap S (fun j => decide (j ∈ ns.take i)) c) →
      (∀ s' c, Moved (S :: wr) G s s' → c ≤ n → SetS w s'.heap S (fun j => decide (j ∈ ns)) c → R (.ok (.ret .none)) s') →
      codeAny (model P w) A (.builtin "set.update.loop" ⟨[.ref S, .ref I], []⟩) R s := by
  have hSw : S ∉ wr := fun h => hSf (W.sub _ h)
  have hsub : ∀ b ∈ wr, b ∈ S :: wr := fun b hb => List.mem_cons_of_mem _ hb
  intro k
  induction k with
  | zero =>
    intro i s hk' hi hst ⟨c, hc, hS⟩ hR
    have hin : i = n := by omega
    subst hin
    refine codeAny_builtin F.entry_set_update_loop ?_
    rw [Around.under_plainId F.plain_set_update_loop _]
    show wpAny _ A.in1 (pyNext (.ref I) >>= _) _ _ s
    refine wpAny_bind (W.done s _ _ hst fun s' hm => ?_)
    show wpAny _ A.in1 (ret Value.none) _ _ s'
    have e : ns.take i = ns := List.take_of_length_le (by omega)
    rw [e] at hS
    exact wpAny_pure (hR s' c (hm.mono hsub) hc (hS.at fun o e => hm.heap S o hSw e))
  | succ k ih =>
    intro i s hk' hi hst ⟨c, hc, hS⟩ hR
    have hlt : i < n := by omega
    refine codeAny_builtin F.entry_set_update_loop ?_
    rw [Around.under_plainId F.plain_set_update_loop _]
    show wpAny _ A.in1 (pyNext (.ref I) >>= _) _ _ s
    refine wpAny_bind (W.item i s _ _ hlt hst fun v s' hP hst' hm => ?_)
    obtain ⟨z, t, hz, rfl⟩ := hval i v hP
    have hS' : SetS w s'.heap S (fun j => decide (j ∈ ns.take i)) c := hS.at fun o e => hm.heap S o hSw e
    show wpAny _ A.in1 (holding [Value.str z t] (setAdd S (.str z t)) >>= _) _ _ s'
    refine wpAny_bind (wpAny_holding ?_)
    unfold setAdd
    refine wpAny_holding ?_
    refine wpAny_bind ((PySem.strKind P w).pyHash (k := z) (strKind_is _ _ _ _) ?_)
    refine setS_add_hashed (s := { s' with toks := s'.toks + 1 }) hS' (by omega) fun h' hsb hS2 => ?_
    have hS3 : SetS w h' S (fun j => decide (j ∈ ns.take (i + 1))) (if decide (z ∈ ns.take i) = true then c else c + 1) := hS2.congr fun j => by
      rw [List.take_add_one, hz]
      simp [List.mem_append]
    have hc3 : (if decide (z ∈ ns.take i) = true then c else c + 1) ≤ i + 1 := by
      split <;> omega
    refine wpAny_pure ⟨plainId_quiet F.plain_set_update_loop _, ih (i + 1) _ (by omega) hlt (W.frame _ s' _ _ hst' (Nat.le_succ _) fun b hb o e => ?_) ⟨_, hc3, hS3⟩ fun s'' c2 hm'' hc'' hS'' => ?_⟩
    · rw [hsb.2 b (fun h : b = S => hSf (by rw [← h]; exact hb))]; exact e
    · refine hR s'' c2 (Moved.trans W.gtrans ((hm.mono hsub).then_heap (Nat.le_succ _) fun b o hb e => ?_) hm'') hc'' hS''
      rw [hsb.2 b (fun h : b = S => hb (by rw [h]; exact List.mem_cons_self))]; exact e

theorem call_set_texts {l : Addr} {items : Array Value} (ns : List Str) {Q : Value → Shared → Prop} (hh : A.handled = none) (hl : s.heap.IsList l items) (hit : StrsAre items.toList ns) (hb : ns.length + 1 < scanBound)
    (h : ∀ (h' : Heap) (tk c : Nat), SetS w h' s.heap.objs.size (fun j => decide (j ∈ ns)) c → c ≤ ns.length → (∀ b o, s.heap.get? b = some o → h'.get? b = some o) → Q (.ref s.heap.objs.size) { s with heap := h', toks := tk }) :
    wpAny (model P w) A (call (.type "set") [.ref l]) Q E s := by
  have hisz : items.size = ns.length := by
    have q := StrsAre.length hit
    rw [Array.length_toList] at q
    exact q
  obtain ⟨c, tl, hmro⟩ := F.called_set.mro
  have hmade := F.called_set.made
  have hsub := F.called_set.sub
  refine wpAny_call (codeAny_of_tree ?_)
  show wpAny _ _ (callAny (.type "set") _) _ _ _
  refine wpAny_pure ⟨Code.quiet_builtin _ (by decide +kernel), codeAny_builtin F.entry_type_call ?_⟩
  rw [Around.under_plain (weight_type_call_type "set" [.ref l] []) rfl]
  have h1 := F.called_set.notType
  have h2 := F.called_set.canCreate
  have hct := F.typeCall_set_1 (.ref l)
  repeat (any_goals (first | assumption | wp_step))

  refine codeAny_mono (code_set_led1 (.ref l) (E := E) (Q₁ := fun obj s₁ => obj = .ref s.heap.objs.size ∧ s₁ = { s with heap := s.heap.push { cls := .type "set", dict := none, data := .set #[] 0 (.fresh 0 0 (!w.params.followText "set-order")) } }) ⟨rfl, rfl⟩) fun r s₁ hr => ?_
  cases r with
  | error e => exact hr
  | ok fl =>
    cases fl with
    | ret obj =>
      obtain ⟨rfl, rfl⟩ := hr
      have hS : (s.heap.push { cls := .type "set", dict := none, data := .set #[] 0 (.fresh 0 0 (!w.params.followText "set-order")) }).get? s.heap.objs.size = some { cls := .type "set", dict := none, data := .set #[] 0 (.fresh 0 0 (!w.params.followText "set-order")) } := Heap.get?_push_size _ rfl
      have hT : Shared.TypeIs { s with heap := s.heap.push { cls := .type "set", dict := none, data := .set #[] 0 (.fresh 0 0 (!w.params.followText "set-order")) } } (.ref s.heap.objs.size) "set" := ⟨_, hS, rfl⟩
      have hli := F.called_set.init.lookup
      have hbi := F.called_set.init.bind (.ref s.heap.objs.size)
      repeat (any_goals (first | assumption | wp_step))

      refine codeAny_mono (codeAny_call_builtin (R := wants (fun r s₂ => r = .none ∧ ∃ h' tk c, s₂ = { s with heap := h', toks := tk } ∧ SetS w h' s.heap.objs.size (fun j => decide (j ∈ ns)) c ∧ c ≤ ns.length ∧
          (∀ b o, s.heap.get? b = some o → h'.get? b = some o)) E) F.called_set.init.plain F.entry_set_init (check_set_init_1 hT ?_)) fun r₂ s₂ hr₂ => ?_
      · obtain ⟨ol, hol, hcl, nl, hdl⟩ := hl
        obtain ⟨ocls, odict, odata, oslots⟩ := ol
        simp only at hcl hdl
        subst hcl; subst hdl
        have hol' : (s.heap.push { cls := .type "set", dict := none, data := .set #[] 0 (.fresh 0 0 (!w.params.followText "set-order")) }).get? l = some { cls := .type "list", dict := odict, data := .seq items nl, slots := oslots } := Heap.get?_push_of_some _ hol
        have hsls := F.sub_list_set
        have hslf := F.sub_list_frozenset
        have hne : (Value.type "list" == Value.type "dict") = false := by decide
        have hl1 : (s.heap.push { cls := .type "set", dict := none, data := .set #[] 0 (.fresh 0 0 (!w.params.followText "set-order")) }).IsList l items := ⟨_, hol', rfl, nl, rfl⟩
        unfold Builtin.«set.__init__» noKeywords Builtin.Frozenset.updateFrom
        generalize hPI : pyIter = PI
        wp_walk
        subst hPI

        refine wpAny_pyIter_list hl1 ?_
        refine wpAny_bind (wpAny_runValue ?_)
        have hlS : l < s.heap.objs.size := Heap.lt_size hol
        have hh3 : A.in1.in1.in1.handled = none := by simp [hh]
        have hz1 : (s.heap.push { cls := .type "set", dict := none, data := .set #[] 0 (.fresh 0 0 (!w.params.followText "set-order")) }).objs.size = s.heap.objs.size + 1 := Heap.size_push ..
        have hneI : l ≠ (s.heap.push { cls := .type "set", dict := none, data := .set #[] 0 (.fresh 0 0 (!w.params.followText "set-order")) }).objs.size := by
          rw [Heap.size_push]; exact Nat.ne_of_lt (Nat.lt_succ_of_lt hlS)
        have hSf : s.heap.objs.size ∉ [(s.heap.push { cls := .type "set", dict := none, data := .set #[] 0 (.fresh 0 0 (!w.params.followText "set-order")) }).objs.size, l] := by
          rw [Heap.size_push]; simp only [List.mem_cons, List.mem_singleton, List.not_mem_nil, or_false, not_or]
          exact ⟨Nat.ne_of_lt (Nat.lt_succ_self _), Nat.ne_of_gt hlS⟩
        have hval : ∀ (i : Nat) (v : Value), items[i]? = some v → ∃ k t, ns[i]? = some k ∧ v = .str k t := fun i v hv => by
          have hi : i < ns.length := by rw [← hisz]; exact (Array.getElem?_eq_some_iff.mp hv).1
          obtain ⟨y, t, e, hy⟩ := PyProof.Rows.StrsAre.item hit i v (by rw [Array.getElem?_toList]; exact hv)
          exact ⟨y, t, hy, e⟩
        refine set_update_texts ((Walks.list hh3 _ l hneI items).toS) s.heap.objs.size
          hSf ns hisz hb hval (items.size - 0) 0 _ (by omega) (Nat.zero_le _)
          ⟨⟨_, Heap.get?_push_size _ rfl, rfl, rfl⟩, (hl1.push _)⟩ ?hS0 ?hR
        case hS0 =>
          have hget : ((s.heap.push { cls := .type "set", dict := none, data := .set #[] 0 (.fresh 0 0 (!w.params.followText "set-order")) }).push { cls := .type "list_iterator", data := .fields #[.ref l, .int 0 0] }).get? s.heap.objs.size
              = some { cls := .type "set", dict := none, data := .set #[] 0 (.fresh 0 0 (!w.params.followText "set-order")) } := Heap.get?_push_of_some _ hS
          exact ⟨0, Nat.le_refl 0, setS_new_at hget⟩
        case hR =>
          intro s' c' hm hc' hS'
          obtain ⟨h', g2, d', tk', os'⟩ := s'
          have eg : g2 = s.gens := hm.gens
          have ed : d' = s.drawn := hm.drawn
          have eo : os' = s.os := hm.os
          subst eg; subst ed; subst eo
          show wpAny _ _ _ _ _ _
          refine wpAny_pure ?_
          show wpAny _ _ (ret Value.none) _ _ _
          rw [hisz] at hc'
          refine wpAny_pure ⟨rfl, h', tk', c', rfl, hS', hc', fun b o e => ?_⟩
          have hb0 : b < s.heap.objs.size := Heap.lt_size e
          have hb1 : b ≠ s.heap.objs.size := Nat.ne_of_lt hb0
          have hb2 : b ≠ (s.heap.push { cls := .type "set", dict := none, data := .set #[] 0 (.fresh 0 0 (!w.params.followText "set-order")) }).objs.size := by
            rw [Heap.size_push]; exact Nat.ne_of_lt (Nat.lt_succ_of_lt hb0)
          exact hm.heap b o (by simp only [List.mem_cons, List.mem_singleton, List.not_mem_nil, or_false, not_or]; exact ⟨hb1, hb2⟩) (Heap.get?_push_of_some _ (Heap.get?_push_of_some _ e))

      · cases r₂ with
        | error e => exact hr₂
        | ok fl₂ =>
          cases fl₂ with
          | ret r =>
            obtain ⟨rfl, h', tk, c', rfl, hS', hc', hk'⟩ := hr₂
            repeat (any_goals (first | assumption | wp_step))
            exact h _ _ _ hS' hc' hk'
          | _ => exact hr₂.elim
    | _ => exact hr.elim

end

section
variable {P : Program} {w : World} {A : Around} {E : Value → Shared → Prop} {s : Shared} {a : Addr}
theorem sorted_setS {S : Str → Bool} {n : Nat} {Q : Value → Shared → Prop} (R : SetS w s.heap a S n) (hh : A.handled = none) (h64 : n < 64)
    (hQ : ∀ s' p (out : Array Value) (c : Nat) (ns : List Str), (∀ b o, s.heap.get? b = some o → s'.heap.get? b = some o) → s'.gens = s.gens → s'.os = s.os → s.heap.objs.size ≤ p →
      s'.heap.get? p = some (seqObj "list" out c) → StrsAre out.toList ns → sortedS ns = true → ns.Nodup → (∀ k, k ∈ ns ↔ S k = true) → ns.length = n → Q (.ref p) s') :
    wpAny (model P w) A (call (.builtin "sorted") [.ref a]) Q E s := by
  obtain ⟨o, es, ep, t, ho, hex, hd, g, nd, hm, hb, hf, hn, hr, hl⟩ := R
  refine Calls.call_function_entry kind_sorted plain_sorted entry_sorted (args_sorted1 _) ?_
  unfold Builtin.«sorted»
  refine wpAny_bind (m := checkCount "sorted" 1 1 _) (wpAny_pure ?_)
  refine wpAny_bind (collect_set (A := A.in1) hh ⟨o, ho, hex.1, hd⟩ hf hb hr hl fun s1 vs k1 hz g1 o1 pm => ?_)
  have hvl : vs.length = n := by rw [pm.length_eq, List.length_map, Array.length_toList]; exact hn
  have hI : StrsAre vs (vs.map strOf) := strsAre_map vs fun v hv => by
    obtain ⟨e, he, q⟩ := List.mem_map.mp (pm.mem_iff.mp hv)
    obtain ⟨k, tk, h1, _⟩ := g e he
    exact ⟨k, tk, by rw [← q]; exact h1⟩
  have pk : (vs.map strOf).Perm (es.toList.map keyS) := by
    have q := pm.map strOf
    rw [List.map_map] at q
    have e : es.toList.map (strOf ∘ fun x => x.2) = es.toList.map keyS := List.map_congr_left fun x hx => by
      obtain ⟨k, tk, h1, _⟩ := g x hx
      show strOf x.2 = keyS x
      unfold keyS
      rw [h1]; rfl
    rw [e] at q
    exact q
  refine wpAny_bind (wpAny_newList ?_ (by rw [hvl, sizeLine_eq]; omega))
  have hoL : (s1.heap.push (seqObj "list" vs.toArray 0)).get? s1.heap.objs.size = some (seqObj "list" vs.toArray 0) := Heap.get?_push_size _ rfl
  refine wpAny_bind (wpAny_holding (wpAny_call_entry slot_list_sort ⟨_, hoL, rfl⟩ entry_list_sort (list_sort_treeK strKind_oneLt hoL hI.keysOf (fun v₁ v₂ rest e => keyKind_strs (by rw [← e]; exact hI)) (by rw [hvl]; exact h64) fun st' hp hs => ⟨_, rfl, ?_⟩) (args_list_sort _)))
  obtain ⟨ns', a1, a2, a3⟩ := sorted_out_str hI hp hs
  obtain ⟨c, hc⟩ := sortedHeap_at (vs := vs) (out := (arrOf st').map (·.2)) hoL
  have pn : ns'.Perm (es.toList.map keyS) := a2.trans pk
  refine wpAny_pure ⟨_, rfl, hQ _ s1.heap.objs.size _ c ns' (fun b u e => ?_) g1 o1 hz hc a1 a3 (pn.nodup_iff.mpr nd) (fun k => by rw [pn.mem_iff, ← hm k]) ?_⟩
  · have q := k1 b u e
    have hlt := Heap.lt_size q
    show (sortedHeap (s1.heap.push (seqObj "list" vs.toArray 0)) s1.heap.objs.size vs _).get? b = some u
    rw [sortedHeap_old (Nat.ne_of_lt hlt) (by rw [size_push']; exact Nat.lt_succ_of_lt hlt)]
    exact Heap.get?_push_of_some _ q
  · rw [pn.length_eq, List.length_map, Array.length_toList]; exact hn
end
/-! ### as rules -/
def SetSO (w : World) (a : Addr) (S : Str → Bool) (n : Nat) : HO := .ext fun h => SetS w h a S n
theorem setSO_new {w : World} {P : Program} {H : Hp} {h : Heap} {a : Addr} {S : Str → Bool} {n : Nat} (R : SetS w h a S n) : ObjOk P w H h a (SetSO w a S n) := by
  have ⟨o, _, _, _, ho, _⟩ := R
  exact ⟨R, ⟨o, ho⟩, fun h1 h2 p k => SetS.at p k⟩
section
variable {X : Cx}
def rSetOfS (K : PySem.W.Frag) (w : World) : List V → Hp → VK → Prop := fun xs H Q => ∃ (l : Addr) (ns : List Str), xs = [V.ref l] ∧ SqL K H l (ns.map V.str) ∧ ns.length ≤ 1000 ∧
  ∀ a c, H a = none → c ≤ ns.length → Q (.ref a) (upd H a (SetSO w a (fun j => decide (j ∈ ns)) c))
theorem cr_setOfS {K : PySem.W.Frag} {w : World} (hc : X.calm = true) (hK : X.K = K := by rfl) (hw : X.w = w := by rfl) : CallR X (.type "set") (rSetOfS K w) := by
  subst hK hw
  intro pins s σ H xs us Q I r h
  obtain ⟨l, ns, rfl, hl, hf, q⟩ := h
  rw [Vals.ref1 r]
  obtain ⟨its, rv, pl, hz⟩ := I.list hl
  have hn : H s.heap.objs.size = none := I.hok.fresh (Nat.le_refl _)
  refine call_set_texts (P := X.prog) (w := X.w) ns (I.ok.hd hc) pl.isList (by simpa using rv.strs) (by unfold scanBound; omega) fun h' tk c R hcl k => ?_
  exact ⟨.ref s.heap.objs.size, upd H s.heap.objs.size (SetSO X.w s.heap.objs.size (fun j => decide (j ∈ ns)) c), I.laid (t' := tk) k (Nat.le_refl _) (setSO_new R), rfl, q _ c hn hcl⟩
def rSortedSS (w : World) : List V → Hp → VK → Prop := fun vs H Q => ∃ (a : Addr) (S : Str → Bool) (n : Nat), vs = [V.ref a] ∧ H a = some (SetSO w a S n) ∧ n < 64 ∧
  ∀ (ns : List Str) (p : Addr), sortedS ns = true → ns.Nodup → (∀ k : Str, k ∈ ns ↔ S k = true) → ns.length = n → H p = none → Q (.ref p) (upd H p (.lst (ns.map V.str)))
theorem cr_sortedSS {w : World} (hc : X.calm = true) (hw : X.w = w := by rfl) : CallR X (.builtin "sorted") (rSortedSS w) := by
  subst hw
  intro pins s σ H vs us Q I r h
  obtain ⟨a, S, n, rfl, ha, h64, q⟩ := h
  have R : SetS X.w s.heap a S n := (I.hok a _ ha).1
  rw [Vals.ref1 r]
  refine sorted_setS R (I.ok.hd hc) h64 fun s' p out c ns k g o hp hg hi hs hd hm hl => ?_
  have hlen : (ns.map V.str).length ≤ sizeLine := by rw [List.length_map, hl, sizeLine_eq]; omega
  have hn : H p = none := I.hok.fresh hp
  have J : Inv X pins σ (upd H p (.lst (ns.map V.str))) { s with heap := s'.heap, gens := s'.gens, drawn := s'.drawn, toks := s'.toks } :=
    I.call (ch := []) (Un.laid k hp hn) (I.hok.laid k hp ⟨hlen, out.toList, c, vals_of_strs hi, hg⟩) (by rw [g]; exact I.bare) (fun _ z => nomatch z)
  have e : s' = { s with heap := s'.heap, gens := s'.gens, drawn := s'.drawn, toks := s'.toks } := by
    cases s'
    cases s
    cases o
    rfl
  rw [e]
  exact ⟨.ref p, _, J, rfl, q ns p hs hd hm hl hn⟩
end
/-! ### sorted of what comes, with sets of texts -/
def uSortedX (K : PySem.W.Frag) (w : World) : List V → Hp → VK → Prop := fun vs H Q => uSorted K vs H Q ∨ rSortedSS w vs H Q
theorem cr_usortedX {X : Cx} {K : PySem.W.Frag} {w : World} (hc : X.calm = true) (hK : X.K = K := by rfl) (hw : X.w = w := by rfl) : CallR X (.builtin "sorted") (uSortedX K w) := by
  subst hK hw
  exact CallR.or cr_usorted (cr_sortedSS hc)
section
variable {H : Hp} {Q : VK} {K : PySem.W.Frag} {w : World} {a : Addr}
theorem v_set_of {ns : List Str} (h : SqL K H a (ns.map V.str)) (hl : ns.length ≤ 1000) (q : ∀ p c H', H p = none → Chg [] H H' → c ≤ ns.length → H' p = some (SetSO w p (fun j => decide (j ∈ ns)) c) → Q (.ref p) H') : rSetOfS K w [.ref a] H Q :=
  ⟨a, ns, rfl, h, hl, fun p c hp hc => q p c _ hp (.new hp) hc upd_same⟩
theorem v_sorted_set {S : Str → Bool} {n : Nat} (h : H a = some (SetSO w a S n)) (hn : n < 64) (q : ∀ (ns : List Str) p H', sortedS ns = true → ns.Nodup → (∀ k, k ∈ ns ↔ S k = true) → ns.length = n → H p = none → Chg [] H H' → H' p = some (.lst (ns.map V.str)) → Q (.ref p) H') : uSortedX K w [.ref a] H Q :=
  .inr ⟨a, S, n, rfl, h, hn, fun ns p h1 h2 h3 h4 hp => q ns p _ h1 h2 h3 h4 hp (.new hp) upd_same⟩
theorem v_sorted_strs {xs : List Str} (h : SqL K H a (xs.map V.str)) (hn : xs.length < 64) (q : ∀ (ys : List Str) p H', ys.Perm xs → sortedS ys = true → H p = none → Chg [] H H' → H' p = some (.lst (ys.map V.str)) → Q (.ref p) H') : uSortedX K w [.ref a] H Q :=
  .inl (.inl (.inr ⟨a, xs, rfl, h, hn, fun ys p h1 h2 hp => q ys p _ h1 h2 hp (.new hp) upd_same⟩))
end
/-! two sorted lists of the same texts, each once, are one -/
theorem ltS_asymm {a b : Str} (h : ltCps a.cps.toList b.cps.toList = true) : ltCps b.cps.toList a.cps.toList = false := by
  rw [ltCps_eq] at *
  rw [decide_eq_true_eq] at h
  exact decide_eq_false (List.lt_asymm h)
theorem ltS_total {a b : Str} (h1 : ltCps a.cps.toList b.cps.toList = false) (h2 : ltCps b.cps.toList a.cps.toList = false) : a = b := by
  rw [ltCps_eq] at *
  have h1 := of_decide_eq_false h1
  have h2 := of_decide_eq_false h2
  have e : a.cps.toList = b.cps.toList := List.le_antisymm (List.not_lt.mp h2) (List.not_lt.mp h1)
  cases a; cases b
  simp only [Str.mk.injEq]
  exact Array.toList_inj.mp e
theorem pairwise_of_sortedS : ∀ {l : List Str}, sortedS l = true → l.Pairwise (fun a b => ltCps b.cps.toList a.cps.toList = false)
  | [], _ => .nil
  | [x], _ => by simp
  | x :: y :: l, h => by
    have h : (!ltCps y.cps.toList x.cps.toList && risingS y l) = true := h
    rw [Bool.and_eq_true] at h
    have ih := pairwise_of_sortedS (l := y :: l) h.2
    refine List.Pairwise.cons ?_ ih
    have h1 : ltCps y.cps.toList x.cps.toList = false := by simpa using h.1
    intro b hb
    rcases List.mem_cons.mp hb with rfl | hb
    · exact h1
    · have h2 := (List.pairwise_cons.mp ih).1 b hb
      rw [ltCps_eq] at *
      have h1 := List.not_lt.mp (of_decide_eq_false h1)
      have h2 := List.not_lt.mp (of_decide_eq_false h2)
      exact decide_eq_false (List.not_lt.mpr (List.le_trans h1 h2))
theorem sortedS_eq : ∀ {l m : List Str}, sortedS l = true → sortedS m = true → l.Nodup → m.Nodup → (∀ z, z ∈ l ↔ z ∈ m) → l = m := by
  intro l m h1 h2 n1 n2 h
  have p : l.Perm m := (List.perm_ext_iff_of_nodup n1 n2).mpr h
  exact p.eq_of_pairwise (fun a b _ _ x y => ltS_total y x) (pairwise_of_sortedS h1) (pairwise_of_sortedS h2)
end RT

namespace RT
open PySem PySem.Spec PyProof.Rows L2
/-! ## 19. programs: bounds, slices, rows by their numbers -/
/-- a name: one to six small letters -/
def isNm (z : Str) : Bool := decide (1 ≤ z.length) && decide (z.length ≤ 6) && z.cps.toList.all fun c => decide (97 ≤ c) && decide (c ≤ 122)
def fcnt (fs : List (Str × List Str × List Str × List Rw)) : Nat := (fs.map fun f => Rw.cnts f.2.2.2 + 1).sum
/-- all names short -/
def Nms.nm (N : Nms) : Prop := (∀ z, N.B z → isNm z = true) ∧ (∀ z, N.L z → isNm z = true) ∧ (∀ z n, N.F z n → isNm z = true) ∧ (∀ z, N.Dr z → isNm z = true)
structure PgOk (p : Pg) : Prop where
  lb : p.bx.length ≤ 3
  ll : p.ls.length ≤ 3
  lf : p.fs.length ≤ 4
  nb : ∀ b ∈ p.bx, isNm b.1 = true ∧ 0 ≤ b.2 ∧ b.2 < 1000000
  nl : ∀ l ∈ p.ls, isNm l.1 = true ∧ l.2.length ≤ 12 ∧ ∀ i ∈ l.2, 0 ≤ i ∧ i < 1000000
  nf : ∀ f ∈ p.fs, isNm f.1 = true ∧ f.2.1.length ≤ 3 ∧ f.2.2.1.length ≤ 3 ∧ (∀ z ∈ f.2.1, isNm z = true) ∧ (∀ z ∈ f.2.2.1, isNm z = true) ∧ (∃ N : Nms, N.nm ∧ Rw.oks N f.2.2.2) ∧ Rw.dpts f.2.2.2 ≤ 5
  ro : (∃ N : Nms, N.nm ∧ Rw.oks N p.rows) ∧ Rw.dpts p.rows ≤ 5
  cn : fcnt p.fs + Rw.cnts p.rows ≤ 62
  nd : (p.bx.map (·.1) ++ p.ls.map (·.1)).Nodup
/-! slices of texts -/
theorem cutV_map {α : Type} (f : α → V) (zs : List α) (lo hi : Option Int) : cutV (zs.map f) lo hi = (cutL zs lo hi).map f := by
  unfold cutV cutL
  rw [List.length_map, List.map_take, List.map_drop]
theorem cutL_mem {α : Type} {zs : List α} {lo hi : Option Int} {z : α} (h : z ∈ cutL zs lo hi) : z ∈ zs := List.mem_of_mem_drop (List.mem_of_mem_take h)
theorem cutL_len {α : Type} (zs : List α) (lo hi : Option Int) : (cutL zs lo hi).length ≤ zs.length := by
  unfold cutL
  rw [List.length_take, List.length_drop]; omega
theorem cutL_hi {α : Type} (zs : List α) {k : Int} (h : 0 ≤ k) : ((cutL zs none (some k)).length : Int) ≤ k := by
  unfold cutL
  obtain ⟨n, rfl⟩ := Int.eq_ofNat_of_zero_le h
  rw [List.length_take, List.length_drop, HT.sIx_none, HT.sIx_nat]
  show ((min (min n zs.length - 0) (zs.length - 0) : Nat) : Int) ≤ _
  omega
section
variable {H : Hp} {Q : VK} {K : PySem.W.Frag}
theorem v_sl_strs {a : Addr} {zs : List Str} {lo hi : Option Int} (h : SqL K H a (zs.map V.str)) (q : ∀ p H', H p = none → Chg [] H H' → H' p = some (.lst ((cutL zs lo hi).map V.str)) → Q (.ref p) H') : uSl K (.ref a) lo hi H Q :=
  v_sl_l h fun p H' n c e => q p H' n c (by rw [cutV_map] at e; exact e)
theorem v_add_strs {a b : Addr} {xs ys : List Str} (h1 : H a = some (.lst (xs.map V.str))) (h2 : H b = some (.lst (ys.map V.str))) (hl : xs.length + ys.length ≤ 10000)
    (q : ∀ p H', H p = none → Chg [] H H' → H' p = some (.lst ((xs ++ ys).map V.str)) → Q (.ref p) H') : uAdd K (.ref a) (.ref b) H Q :=
  v_add_ll h1 h2 ((by rw [sizeLine_eq]; have := hl; simp only [List.length_map]; omega)) fun p H' n c e => q p H' n c (by rw [List.map_append]; exact e)
/-- one of a few numbers -/
theorem v_ix_ints {a : Addr} {ns : List Int} {i : Int} (h : H a = some (.lst (ns.map V.int))) (h0 : 0 ≤ i) (h1 : i < ns.length) (q : ∀ m, m ∈ ns → Q (.int m) H) : uIx K (.ref a) (.int i) H Q :=
  v_ix_lany (SqL.of h) h0 (by rw [List.length_map]; exact h1) fun v hv => by
    obtain ⟨m, hm, rfl⟩ := List.mem_map.mp (List.mem_of_getElem? hv)
    exact q m hm
end
theorem cutL_pre {α : Type} (zs : List α) {m : Int} (h : 0 ≤ m) : cutL zs none (some m) = zs.take (min m.toNat zs.length) := by
  obtain ⟨k, rfl⟩ := Int.eq_ofNat_of_zero_le h
  unfold cutL
  rw [HT.sIx_none, HT.sIx_nat]
  simp
theorem cutL_post {α : Type} (zs : List α) (k : Nat) : cutL zs (some (k : Int)) none = zs.drop k := by
  unfold cutL
  rw [HT.sIx_none, HT.sIx_nat]
  by_cases h : k ≤ zs.length
  · rw [Nat.min_eq_left h]
    exact List.take_of_length_le (by rw [List.length_drop]; exact Nat.le_refl _)
  · rw [Nat.min_eq_right (by omega), List.drop_of_length_le (Nat.le_refl _), List.drop_of_length_le (by omega)]
    simp
theorem nd_parts {zs : List Str} (hn : zs.Nodup) {m1 m2 : Int} (h0 : 0 ≤ m1) (h1 : m1 ≤ 3) (h2 : 0 ≤ m2) : (cutL zs none (some m1) ++ cutL (cutL zs (some 3) none) none (some m2)).Nodup := by
  rw [cutL_pre _ h0, show (some (3 : Int)) = some ((3 : Nat) : Int) from rfl, cutL_post, cutL_pre _ h2]
  have s1 : (zs.take (min m1.toNat zs.length)).Sublist (zs.take 3) := by
    rw [show zs.take (min m1.toNat zs.length) = (zs.take 3).take (min m1.toNat zs.length) by rw [List.take_take]; congr 1; omega]
    exact List.take_sublist _ _
  have s2 := (s1.append (List.take_sublist (min m2.toNat (zs.drop 3).length) (zs.drop 3)))
  rw [List.take_append_drop] at s2
  exact s2.nodup hn
theorem fcnt_app (a b : List (Str × List Str × List Str × List Rw)) : fcnt (a ++ b) = fcnt a + fcnt b := by simp [fcnt]
/-! ### rows by their numbers -/
abbrev En := Str ⊕ Rw
def dE : En → D
  | .inl n => .tup [.str "def", .str n]
  | .inr r => r.d
abbrev Tr := Int × En × Int
def tD (t : Tr) : D := .tup [.int t.1, dE t.2.1, .int t.2.2]
mutual
def numR : Nat → Int → Rw → List Tr
  | n, a, .ife v x y => ((n : Int), .inr (.ife v x y), a) :: (numRs (n + 1) n x ++ numRs (n + 1 + Rw.cnts x) n y)
  | n, a, .whl v x => ((n : Int), .inr (.whl v x), a) :: numRs (n + 1) n x
  | n, a, .tr x b y => ((n : Int), .inr (.tr x b y), a) :: (numRs (n + 1) n x ++ numRs (n + 1 + Rw.cnts x) n y)
  | n, a, r => [((n : Int), .inr r, a)]
def numRs : Nat → Int → List Rw → List Tr
  | _, _, [] => []
  | n, a, r :: l => numR n a r ++ numRs (n + r.cnt) a l
end
def Rw.ins : Rw → List (List Rw)
  | .ife _ x y => [x, y]
  | .whl _ x => [x]
  | .tr x _ y => [x, y]
  | _ => []
def Rw.inl (r : Rw) : List Rw := r.ins.flatten
theorem numRs_app : ∀ (n : Nat) (a : Int) (l m : List Rw), numRs n a (l ++ m) = numRs n a l ++ numRs (n + Rw.cnts l) a m
  | n, a, [], m => by simp [numRs, Rw.cnts]
  | n, a, r :: l, m => by
    rw [List.cons_append, numRs, numRs, numRs_app (n + r.cnt) a l m, Rw.cnts, List.append_assoc, Nat.add_assoc]
theorem Rw.cnt_inl (r : Rw) : r.cnt = Rw.cnts r.inl + 1 := by
  cases r <;> simp [Rw.cnt, Rw.inl, Rw.ins, Rw.cnts, Rw.cnts_app]
theorem numR_eq (n : Nat) (a : Int) (r : Rw) : numR n a r = ((n : Int), .inr r, a) :: numRs (n + 1) n r.inl := by
  cases r <;> simp [numR, Rw.inl, Rw.ins, numRs, numRs_app]
theorem numRs_cons (n : Nat) (a : Int) (r : Rw) (l : List Rw) : numRs n a (r :: l) = numR n a r ++ numRs (n + r.cnt) a l := by rw [numRs]
mutual
theorem len_numR : ∀ (r : Rw) (n : Nat) (a : Int), (numR n a r).length = r.cnt
  | .ife v x y, n, a => by simp [numR, Rw.cnt, len_numRs x, len_numRs y]
  | .whl v x, n, a => by simp [numR, Rw.cnt, len_numRs x]
  | .tr x b y, n, a => by simp [numR, Rw.cnt, len_numRs x, len_numRs y]
  | .set .., n, a => rfl
  | .push .., n, a => rfl
  | .pop .., n, a => rfl
  | .put .., n, a => rfl
  | .ask .., n, a => rfl
  | .tell .., n, a => rfl
  | .fail .., n, a => rfl
  | .call .., n, a => rfl
  | .ret .., n, a => rfl
theorem len_numRs : ∀ (l : List Rw) (n : Nat) (a : Int), (numRs n a l).length = Rw.cnts l
  | [], _, _ => by simp [numRs, Rw.cnts]
  | r :: l, n, a => by rw [numRs, List.length_append, len_numR r, len_numRs l, Rw.cnts]
end
theorem Rw.ins_dpts {r : Rw} {s : List Rw} (h : s ∈ r.ins) : Rw.dpts s + 1 ≤ r.dpt := by
  cases r <;> simp only [Rw.ins, List.mem_cons, List.not_mem_nil, or_false] at h
  · rcases h with rfl | rfl
    all_goals simp only [Rw.dpt]; omega
  · subst h; simp only [Rw.dpt]; omega
  · rcases h with rfl | rfl
    all_goals simp only [Rw.dpt]; omega
abbrev Fn := Str × List Str × List Str × List Rw
def fnTr : Nat → List Fn → List Tr
  | _, [] => []
  | n, f :: fs => ((n : Int), .inl f.1, -1) :: (numRs (n + 1) n f.2.2.2 ++ fnTr (n + 1 + Rw.cnts f.2.2.2) fs)
def trs (p : Pg) : List Tr := fnTr 0 p.fs ++ numRs (fcnt p.fs) (-1) p.rows
theorem fcnt_cons (f : Fn) (fs : List Fn) : fcnt (f :: fs) = Rw.cnts f.2.2.2 + 1 + fcnt fs := by simp [fcnt]
theorem fnTr_app : ∀ (n : Nat) (a b : List Fn), fnTr n (a ++ b) = fnTr n a ++ fnTr (n + fcnt a) b
  | n, [], b => by simp [fnTr, fcnt]
  | n, f :: a, b => by
    rw [List.cons_append, fnTr, fnTr, fnTr_app (n + 1 + Rw.cnts f.2.2.2) a b, fcnt_cons, List.cons_append, List.append_assoc]
    congr 4; omega
theorem len_fnTr : ∀ (n : Nat) (a : List Fn), (fnTr n a).length = fcnt a
  | n, [] => by simp [fnTr, fcnt]
  | n, f :: a => by
    rw [fnTr, List.length_cons, List.length_append, len_numRs, len_fnTr (n + 1 + Rw.cnts f.2.2.2) a, fcnt_cons]; omega
theorem len_trs (p : Pg) : (trs p).length = fcnt p.fs + Rw.cnts p.rows := by rw [trs, List.length_append, len_fnTr, len_numRs]
def askE : Tr → Option Str
  | (_, .inr (.ask _ d), _) => some d
  | _ => none
theorem En.view (e : En) : (∃ x d, e = .inr (.ask x d)) ∨ ((∀ n a, askE (n, e, a) = none) ∧ ∃ (w : String) (ds : List D), dE e = .tup (.str w :: ds) ∧ w ≠ "ask") := by
  rcases e with n | r
  · exact .inr ⟨fun _ _ => rfl, "def", _, rfl, by decide⟩
  · cases r with
    | ask x d => exact .inl ⟨x, d, rfl⟩
    | set x v => exact .inr ⟨fun _ _ => rfl, "set", _, rfl, by decide⟩
    | push x v => exact .inr ⟨fun _ _ => rfl, "push", _, rfl, by decide⟩
    | pop x v => exact .inr ⟨fun _ _ => rfl, "pop", _, rfl, by decide⟩
    | put x v u => exact .inr ⟨fun _ _ => rfl, "put", _, rfl, by decide⟩
    | tell v => exact .inr ⟨fun _ _ => rfl, "tell", _, rfl, by decide⟩
    | fail v => exact .inr ⟨fun _ _ => rfl, "fail", _, rfl, by decide⟩
    | call x f vs => exact .inr ⟨fun _ _ => rfl, "call", _, rfl, by decide⟩
    | ret v => exact .inr ⟨fun _ _ => rfl, "return", _, rfl, by decide⟩
    | ife v a b => exact .inr ⟨fun _ _ => rfl, "if", _, by rw [dE, Rw.d], by decide⟩
    | whl v a => exact .inr ⟨fun _ _ => rfl, "while", _, by rw [dE, Rw.d], by decide⟩
    | tr a x b => exact .inr ⟨fun _ _ => rfl, "try", _, by rw [dE, Rw.d], by decide⟩
def doorsL (p : Pg) : List Str := (trs p).filterMap askE
def sp_within : Sp := fun vs H Q _ => ∃ v r, vs = [v] ∧ Rp H v (Rw.d r) ∧ ∀ (p : Addr) (xs : List V) H', H p = none → Chg [] H H' → H' p = some (.lst xs) → RpA H' xs (r.ins.map fun s => .tup (Rw.ds s)) → Q (.ref p) H'
def sp_put (n : Nat) : Sp := fun vs H Q _ => ∃ v ar fo rs xs ds, vs = [v, .int ar, .ref fo] ∧ Rp H v (.tup (Rw.ds rs)) ∧ Rw.dpts rs < n ∧ H fo = some (.lst xs) ∧ RpA H xs ds ∧ ds.length + Rw.cnts rs ≤ 1000 ∧
  ∀ (ys : List V) H', Chg [fo] H H' → H' fo = some (.lst ys) → RpA H' ys (ds ++ (numRs ds.length ar rs).map tD) → Q .non H'
structure PgN (p : Pg) : Prop where
  d1 : ∀ f ∈ p.fs, Rw.dpts f.2.2.2 ≤ 5
  d2 : Rw.dpts p.rows ≤ 5
  cn : fcnt p.fs + Rw.cnts p.rows ≤ 62
def sp_rowsof : Sp := fun vs H Q _ => ∃ v p, vs = [v] ∧ Rp H v p.d ∧ PgN p ∧ ∀ (fo : Addr) (xs : List V) H', H fo = none → Chg [] H H' → H' fo = some (.lst xs) → RpA H' xs ((trs p).map tD) → Q (.ref fo) H'
def sp_doorsof : Sp := fun vs H Q _ => ∃ v p, vs = [v] ∧ Rp H v p.d ∧ PgN p ∧ ∀ (zs : List Str) (q : Addr) H', sortedS zs = true → zs.Nodup → (∀ k, k ∈ zs ↔ k ∈ doorsL p) → (∀ k ∈ zs, PyData.strOk k = true) → zs.length ≤ 62 → H q = none → Chg [] H H' → H' q = some (.lst (zs.map V.str)) → Q (.ref q) H'
theorem Rw.hd (r : Rw) : ∃ (w : String) (ds : List D), Rw.d r = .tup (.str w :: ds) ∧ ((w = "if" ∧ ∃ v x y, r = .ife v x y) ∨ (w = "while" ∧ ∃ v x, r = .whl v x) ∨ (w = "try" ∧ ∃ x b y, r = .tr x b y) ∨ (w ≠ "if" ∧ w ≠ "while" ∧ w ≠ "try" ∧ r.ins = [])) := by
  cases r with
  | set x v => exact ⟨"set", _, rfl, by simp [Rw.ins]⟩
  | push x v => exact ⟨"push", _, rfl, by simp [Rw.ins]⟩
  | pop x v => exact ⟨"pop", _, rfl, by simp [Rw.ins]⟩
  | put x v u => exact ⟨"put", _, rfl, by simp [Rw.ins]⟩
  | ask x v => exact ⟨"ask", _, rfl, by simp [Rw.ins]⟩
  | tell v => exact ⟨"tell", _, rfl, by simp [Rw.ins]⟩
  | fail v => exact ⟨"fail", _, rfl, by simp [Rw.ins]⟩
  | call x f vs => exact ⟨"call", _, rfl, by simp [Rw.ins]⟩
  | ret v => exact ⟨"return", _, rfl, by simp [Rw.ins]⟩
  | ife v a b => exact ⟨"if", _, by rw [Rw.d], .inl ⟨rfl, _, _, _, rfl⟩⟩
  | whl v a => exact ⟨"while", _, by rw [Rw.d], .inr (.inl ⟨rfl, _, _, rfl⟩)⟩
  | tr a x b => exact ⟨"try", _, by rw [Rw.d], .inr (.inr (.inl ⟨rfl, _, _, _, rfl⟩))⟩
theorem RpA.strH {H : Hp} {w : Str} {ds : List D} {xs : List V} (h : RpA H xs (.str w :: ds)) : ∃ ys, xs = .str w :: ys ∧ RpA H ys ds ∧ PyData.strOk w = true := by
  cases h with | cons r t => cases r with | str hz => exact ⟨_, rfl, t, hz⟩
theorem RpA.intH {H : Hp} {w : Int} {ds : List D} {xs : List V} (h : RpA H xs (.int w :: ds)) : ∃ ys, xs = .int w :: ys ∧ RpA H ys ds := by
  cases h with | cons r t => cases r; exact ⟨_, rfl, t⟩
theorem RpA.consH {H : Hp} {d : D} {ds : List D} {xs : List V} (h : RpA H xs (d :: ds)) : ∃ x ys, xs = x :: ys ∧ Rp H x d ∧ RpA H ys ds := by
  cases h with | cons r t => exact ⟨_, _, rfl, r, t⟩
theorem atI_0 {α : Type} (x : α) (xs : List α) : atI (x :: xs) 0 = some x := atI_nat (j := 0) (by simp)
theorem RpA.nilH {H : Hp} {xs : List V} (h : RpA H xs []) : xs = [] := by cases h; rfl
/-! a comprehension whose law speaks of its list -/
section
variable {g : TG} {tb : TS} {n : L2.St → Hp → Prop} {r : VK} {b c : L2.St → Hp → Prop} {σ : L2.St} {H : Hp} {K : PySem.W.Frag} {te : TE} {ta : TA} {Q : VK}
theorem v_lc_listD {a : Addr} {xs : List V} {tt : TT} {vs : List Nat} (S : List Addr) (Pv : Addr → Nat → List V → Hp → Prop) (hS : ∀ b ∈ S, H b ≠ none) (hl : ∀ H', Chg S H H' → SqL K H' a xs)
    (h0 : ∀ D H', H D = none → Chg [] H H' → H' D = some (.lst []) → Pv D 0 [] H')
    (hs : ∀ D i x acc H1, xs[i]? = some x → H D = none → D ∉ S → Chg S H H1 → H1 D = some (.lst acc) → Pv D i acc H1 → g x (wipe σ vs) H1 fun σ2 H2 => wipe σ2 vs = wipe σ vs ∧ tt σ2 H2 fun k H3 =>
      if k = true then te σ2 H3 fun y H4 => LcA D (LcI S H D (Pv D) (i + 1)) y H4 else LcI S H D (Pv D) (i + 1) H3)
    (hd : ∀ D acc H', Chg S H H' → H D = none → H' D = some (.lst acc) → Pv D xs.length acc H' → Q (.ref D) H') : LcQ (Itl K a) g tt te vs σ H Q := by
  intro D hD
  have dS : D ∉ S := fun m => hS D m hD
  refine lc_list (xs := xs) (LcI S H D (Pv D)) ⟨[], (Chg.new hD).of0, upd_same, h0 D _ hD (.new hD) upd_same⟩ (fun i H1 _ ⟨_, c, _⟩ => hl _ c) (fun i x H1 hx ⟨acc, c, e, p⟩ => hs D i x acc H1 hx hD dS c e p) (fun H1 ⟨acc, c, e, p⟩ => hd D acc H1 c hD e p)
theorem v_lc_tupD {a : Addr} {xs : List V} {tt : TT} {vs : List Nat} (S : List Addr) (Pv : Addr → Nat → List V → Hp → Prop) (hS : ∀ b ∈ S, H b ≠ none) (hl : ∀ H', Chg S H H' → SqT K H' a xs)
    (h0 : ∀ D H', H D = none → Chg [] H H' → H' D = some (.lst []) → Pv D 0 [] H')
    (hs : ∀ D i x acc H1, xs[i]? = some x → H D = none → D ∉ S → Chg S H H1 → H1 D = some (.lst acc) → Pv D i acc H1 → g x (wipe σ vs) H1 fun σ2 H2 => wipe σ2 vs = wipe σ vs ∧ tt σ2 H2 fun k H3 =>
      if k = true then te σ2 H3 fun y H4 => LcA D (LcI S H D (Pv D) (i + 1)) y H4 else LcI S H D (Pv D) (i + 1) H3)
    (hd : ∀ D acc H', Chg S H H' → H D = none → H' D = some (.lst acc) → Pv D xs.length acc H' → Q (.ref D) H') : LcQ (Itt K a) g tt te vs σ H Q := by
  intro D hD
  have dS : D ∉ S := fun m => hS D m hD
  refine lc_tup (xs := xs) (LcI S H D (Pv D)) ⟨[], (Chg.new hD).of0, upd_same, h0 D _ hD (.new hD) upd_same⟩ (fun i H1 _ ⟨_, c, _⟩ => hl _ c) (fun i x H1 hx ⟨acc, c, e, p⟩ => hs D i x acc H1 hx hD dS c e p) (fun H1 ⟨acc, c, e, p⟩ => hd D acc H1 c hD e p)
end
theorem pg_tupU {X : Cx} {K : PySem.W.Frag} {es : List Expr} {k : Nat} {pos : Pos} {t : TGs} {n : Nat} (hc : X.calm = true) (h : PGs X es t) (hK : X.K = K := by rfl)
    (hn : (assignEach es X.env).length = n := by rfl) (hst : (assignEach es X.env).findIdx? (·.1) = none := by rfl) : PG X (.Tuple es k pos) (gTup K n t) := by
  subst hK
  exact pg_tup hc h hn hst
theorem map_get {α β : Type} {f : α → β} {l : List α} {i : Nat} {y : β} (h : (l.map f)[i]? = some y) : ∃ x, l[i]? = some x ∧ y = f x := by
  rw [List.getElem?_map] at h
  cases e : l[i]? with
  | none => rw [e] at h; cases h
  | some z => rw [e] at h; cases h; exact ⟨z, rfl, rfl⟩
theorem take_snoc {α : Type} {l : List α} {i : Nat} {x : α} (h : l[i]? = some x) : l.take (i + 1) = l.take i ++ [x] := by rw [List.take_add_one, h]; rfl
theorem Pg.parts {H : Hp} {v : V} {p : Pg} (h : Rp H v p.d) : ∃ (a : Addr) (v1 v2 v3 v4 : V), v = .ref a ∧ H a = some (.tup [v1, v2, v3, v4]) ∧ Rp H v1 (.tup (p.bx.map bxD)) ∧ Rp H v2 (.tup (p.ls.map lsD)) ∧ Rp H v3 (.tup (p.fs.map fnD)) ∧ Rp H v4 (.tup (Rw.ds p.rows)) := by
  obtain ⟨a, xs, rfl, ha, hx⟩ := h.tupI
  obtain ⟨v1, x1, rfl, r1, h1⟩ := hx.consH
  obtain ⟨v2, x2, rfl, r2, h2⟩ := h1.consH
  obtain ⟨v3, x3, rfl, r3, h3⟩ := h2.consH
  obtain ⟨v4, x4, rfl, r4, h4⟩ := h3.consH
  cases h4.nilH
  exact ⟨a, v1, v2, v3, v4, rfl, ha, r1, r2, r3, r4⟩
theorem fn_parts {H : Hp} {v : V} {f : Fn} (h : Rp H v (fnD f)) : ∃ (a : Addr) (v2 v3 v4 : V), v = .ref a ∧ H a = some (.tup [.str f.1, v2, v3, v4]) ∧ PyData.strOk f.1 = true ∧ Rp H v2 (.tup (f.2.1.map D.str)) ∧ Rp H v3 (.tup (f.2.2.1.map D.str)) ∧ Rp H v4 (.tup (Rw.ds f.2.2.2)) := by
  obtain ⟨a, xs, rfl, ha, hx⟩ := h.tupI
  obtain ⟨x1, rfl, h1, ok⟩ := hx.strH
  obtain ⟨v2, x2, rfl, r2, h2⟩ := h1.consH
  obtain ⟨v3, x3, rfl, r3, h3⟩ := h2.consH
  obtain ⟨v4, x4, rfl, r4, h4⟩ := h3.consH
  cases h4.nilH
  exact ⟨a, v2, v3, v4, rfl, ha, ok, r2, r3, r4⟩
theorem tr_parts {H : Hp} {v : V} {t : Tr} (h : Rp H v (tD t)) : ∃ (a : Addr) (u : V), v = .ref a ∧ H a = some (.tup [.int t.1, u, .int t.2.2]) ∧ Rp H u (dE t.2.1) := by
  obtain ⟨a, xs, rfl, ha, hx⟩ := h.tupI
  obtain ⟨x1, rfl, h1⟩ := hx.intH
  obtain ⟨u, x2, rfl, r2, h2⟩ := h1.consH
  obtain ⟨x3, rfl, h3⟩ := h2.intH
  cases h3.nilH
  exact ⟨a, u, rfl, ha, r2⟩
theorem ask_parts {H : Hp} {v : V} {x d : Str} (h : Rp H v (Rw.d (.ask x d))) : ∃ a, v = .ref a ∧ H a = some (.tup [.str "ask", .str x, .str d]) ∧ PyData.strOk d = true := by
  obtain ⟨a, xs, rfl, ha, hx⟩ := h.tupI
  obtain ⟨x1, rfl, h1, _⟩ := hx.strH
  obtain ⟨x2, rfl, h2, _⟩ := h1.strH
  obtain ⟨x3, rfl, h3, ok⟩ := h2.strH
  cases h3.nilH
  exact ⟨a, rfl, ha, ok⟩
/-! a line of rows, each with those within it -/
abbrev Le := En × Int × List Rw
def due : Nat → List Le → List Tr
  | _, [] => []
  | n, e :: W => ((n : Int), e.1, e.2.1) :: (numRs (n + 1) n e.2.2 ++ due (n + 1 + Rw.cnts e.2.2) W)
def leR (a : Int) (r : Rw) : Le := (.inr r, a, r.inl)
theorem due_push : ∀ (m : Nat) (a : Int) (l : List Rw) (W : List Le), due m (l.map (leR a) ++ W) = numRs m a l ++ due (m + Rw.cnts l) W
  | m, a, [], W => by simp [numRs, Rw.cnts]
  | m, a, r :: l, W => by
    rw [List.map_cons, List.cons_append, due, numRs_cons, numR_eq]
    show ((m : Int), .inr r, a) :: (numRs (m + 1) m r.inl ++ due (m + 1 + Rw.cnts r.inl) _) = _
    rw [due_push _ a l W, Rw.cnts, r.cnt_inl, List.append_assoc, List.cons_append]
    congr 3
    · congr 1; omega
    · congr 1; omega
def leF (f : Fn) : Le := (.inl f.1, -1, f.2.2.2)
theorem due_fns : ∀ (m : Nat) (fs : List Fn) (W : List Le), due m (fs.map leF ++ W) = fnTr m fs ++ due (m + fcnt fs) W
  | m, [], W => by simp [fnTr, fcnt]
  | m, f :: fs, W => by
    rw [List.map_cons, List.cons_append, due, fnTr, fcnt_cons]
    show ((m : Int), .inl f.1, -1) :: (numRs (m + 1) m f.2.2.2 ++ due (m + 1 + Rw.cnts f.2.2.2) _) = _
    rw [due_fns _ fs W, List.cons_append, List.append_assoc]
    congr 4; omega
def lineP (p : Pg) : List Le := p.fs.map leF ++ p.rows.map (leR (-1))
theorem due_all (p : Pg) : due 0 (lineP p) = trs p := by
  unfold lineP trs
  have h := due_push (0 + fcnt p.fs) (-1) p.rows []
  rw [List.append_nil] at h
  rw [due_fns, h, due, List.append_nil, Nat.zero_add]
def wcnt (W : List Le) : Nat := (W.map fun e => Rw.cnts e.2.2 + 1).sum
theorem wcnt_app (a b : List Le) : wcnt (a ++ b) = wcnt a + wcnt b := by simp [wcnt]
theorem wcnt_cons (e : Le) (W : List Le) : wcnt (e :: W) = Rw.cnts e.2.2 + 1 + wcnt W := by simp [wcnt]
theorem wcnt_leR (a : Int) : ∀ l : List Rw, wcnt (l.map (leR a)) = Rw.cnts l
  | [] => rfl
  | r :: l => by rw [List.map_cons, wcnt_cons, wcnt_leR a l, Rw.cnts, r.cnt_inl]; rfl
theorem len_due : ∀ (n : Nat) (W : List Le), (due n W).length = wcnt W
  | _, [] => rfl
  | n, e :: W => by rw [due, List.length_cons, List.length_append, len_numRs, len_due _ W, wcnt_cons]; omega
inductive LnAt (H : Hp) (S : List Addr) : List V → List Le → Prop
  | nil : LnAt H S [] []
  | cons {t l : Addr} {v : V} {ys xs : List V} {e : Le} {W : List Le} : H t = some (.tup [v, .int e.2.1, .ref l]) → Rp H v (dE e.1) → H l = some (.lst ys) → l ∉ S → RpA H ys (Rw.ds e.2.2) → LnAt H S xs W → LnAt H S (.ref t :: xs) (e :: W)
theorem LnAt.on {S S' : List Addr} {H H' : Hp} {xs : List V} {W : List Le} (h : LnAt H S xs W) (c : Chg S' H H') (hS : ∀ s ∈ S', s ∈ S ∨ H s = none) : LnAt H' S xs W := by
  induction h with
  | nil => exact .nil
  | cons e1 r1 e2 n1 r2 _ ih => exact .cons (c.tup e1) (r1.on c) (c.keep e2 fun m => (hS _ m).elim n1 fun z => by rw [z] at e2; cases e2) n1 (r2.on c) ih
theorem LnAt.re {S S' : List Addr} {H : Hp} {xs : List V} {W : List Le} (h : LnAt H S xs W) (hS : ∀ s ∈ S', s ∈ S ∨ H s = none) : LnAt H S' xs W := by
  induction h with
  | nil => exact .nil
  | cons e1 r1 e2 n1 r2 _ ih => exact .cons e1 r1 e2 (fun m => (hS _ m).elim n1 fun z => by rw [z] at e2; cases e2) r2 ih
theorem LnAt.app {S : List Addr} {H : Hp} {xs ys : List V} {W U : List Le} (h : LnAt H S xs W) (h' : LnAt H S ys U) : LnAt H S (xs ++ ys) (W ++ U) := by
  induction h with
  | nil => exact h'
  | cons e1 r1 e2 n1 r2 _ ih => exact .cons e1 r1 e2 n1 r2 ih
theorem LnAt.length {S : List Addr} {H : Hp} {xs : List V} {W : List Le} (h : LnAt H S xs W) : xs.length = W.length := by
  induction h with
  | nil => rfl
  | cons _ _ _ _ _ _ ih => rw [List.length_cons, List.length_cons, ih]
/-- as data -/
def leD (e : Le) : PyData := .tuple [(dE e.1).py, .int e.2.1, .list (D.pys (Rw.ds e.2.2))]
theorem LnAt.dp {K : PySem.W.Frag} {S : List Addr} {H : Hp} {xs : List V} {W : List Le} (h : LnAt H S xs W) : L2.DpAll K H xs (W.map leD) := by
  induction h with
  | nil => exact .nil
  | cons e1 r1 e2 n1 r2 _ ih => exact .cons (.tup (SqT.of e1) (.cons (Rp.dp _ _ r1) (.cons (.int _) (.cons (.lst (SqL.of e2) (RpA.dp _ _ r2)) .nil)))) ih
theorem LnAt.lay {S : List Addr} {H : Hp} {xs : List V} {W : List Le} (h : LnAt H S xs W) : PyData.canLayAll0 (W.map leD) = true := by
  induction h with
  | nil => rfl
  | cons e1 r1 e2 n1 r2 _ ih =>
    rw [List.map_cons, PyData.canLayAll0, ih]
    simp only [leD, PyData.canLay0, PyData.canLayAll0, Rp.lay _ _ r1, RpA.lay _ _ r2, Bool.and_true]
theorem le_depth {n : Nat} : ∀ W : List Le, (∀ e ∈ W, (dE e.1).dep ≤ n ∧ D.deps (Rw.ds e.2.2) ≤ n) → PyData.depthAll (W.map leD) ≤ n + 2
  | [], _ => Nat.zero_le _
  | e :: W, h => by
    have ih := le_depth W fun x hx => h x (List.mem_cons_of_mem _ hx)
    obtain ⟨h1, h2⟩ := h e List.mem_cons_self
    rw [List.map_cons, PyData.depthAll]
    have : PyData.depth (leD e) ≤ n + 2 := by
      simp only [leD, PyData.depth, PyData.depthAll, D.depth_py, D.depth_pys]
      omega
    omega
end RT

/-! ## 20. list += list -/
namespace RT
open PySem PySem.Spec PyProof.Rows L2
theorem seqI_list : seqSlot? (.type "list") (dunderI "add") = pure (some (.builtin "list.__iadd__")) := PySem.seqSlot_of PySem.F.slot_list_iadd.lookup (by decide +kernel)
theorem noFillI_list : fillsInplaceSlot (.type "list") "add" (Operator.Add == .Add) = pure false := by
  unfold fillsInplaceSlot
  show (typeLookup (.type "list") (dunderI "add") >>= fun fi => pure (fi.isSome && !isSeqSlot fi)) = pure false
  rw [PySem.F.slot_list_iadd.lookup]
  rfl
theorem rt_iadd_list {M : Model} {A : Around} {E : Value → Shared → Prop} {s : Shared} {a b : Value} {Q : Value → Shared → Prop} (ha : s.TypeIs a "list") (hb : s.TypeIs b "list")
    (hc : wpAny M A (call (.builtin "list.__iadd__") [a, b]) Q E s) : wpAny M A (inplaceOp .Add a b) Q E s := by
  unfold inplaceOp
  refine wpAny_holding ?_
  refine wpAny_bind (wpAny_typeOf ha (wpAny_bind (wpAny_of_eq noFillI_list ?_)))
  show wpAny M A (if false = true then _ else _) Q E s
  rw [if_neg Bool.false_ne_true]
  refine wpAny_bind (wpAny_binaryOp1_none (nm := "add") ha hb PySem.noFill_list_add ?_)
  refine wpAny_bind (wpAny_of_eq seqI_list ?_)
  exact wpAny_bind (wpAny_rule hc)
/-- l += b -/
def ipL : TIp := fun x y H Q => ∃ l b xs zs, x = .ref l ∧ y = .ref b ∧ H l = some (.lst xs) ∧ H b = some (.lst zs) ∧ xs.length + zs.length ≤ sizeLine ∧ Q (.ref l) (upd H l (.lst (xs ++ zs)))
theorem ip_cat {X : Cx} : PIp X .Add ipL := by
  intro pins s σ H x y v u Q I rx ry h
  obtain ⟨l, b, xs, zs, rfl, rfl, hH, hB, hz, q⟩ := h
  cases rx
  cases ry
  obtain ⟨z, its, n, r, hl, e⟩ := I.lstM hH
  obtain ⟨z2, its2, n2, r2, hl2, e2⟩ := I.lstM hB
  have hsz : its.toArray.size + its2.toArray.size ≤ sizeLine := by rw [List.size_toArray, List.size_toArray]; omega
  have hlong : ¬ (!its.toArray.isEmpty && Builtin.List.listTooLong (its.toArray.size + its2.toArray.size)) = true := by
    rw [notLongL hsz, Bool.and_false]
    exact Bool.false_ne_true
  refine rt_iadd_list ⟨_, e, rfl⟩ ⟨_, e2, rfl⟩ (call_meets PySem.F.slot_list_iadd ⟨_, e, rfl⟩ PySem.F.entry_list_iadd (PySem.F.args_list_iadd_2 _ _)
    (AutoSeq1.list___iadd___list_list_0 l its.toArray n b its2.toArray n2 hlong (by rw [List.size_toArray]; omega) (by omega)) ⟨e, e2, ?_⟩)
  refine ⟨.ref l, _, I.lset (its' := its ++ its2) hH e (by simp) (r.append r2) ?_, rfl, q⟩
  rw [List.length_append]
  omega
/-! ## 21. texts: str, join, or -/
theorem pe_bmU {X : Cx} {K : PySem.W.Frag} {T id : String} {name : Str} {r : V → List V → Hp → VK → Prop} {o e : Expr} {es : List Expr} {to : TE} {t : TA} {apos cpos : Pos}
    (pa : PlainAttrs T) (slot : Slot T name id) (hty : typeOf (.builtin id) = pure (.type "method_descriptor")) (hm : MtR X id r) (ho : PE X o to) (ha : PA X (e :: es) t) (hK : X.K = K := by rfl)
    (hbase : attributeBase o name X.env (eval o X.env) = eval o X.env := by rfl)
    (hfew : ((backTo cpos (starEach (e :: es) X.env)).all (fun x => !x.1) && (backToKw cpos (keywordEach [] X.env)).all (fun x => x.1.isSome)
      && decide ((e :: es).length + ([] : List Keyword).length + (if ([] : List Keyword).isEmpty then 0 else 1) < 30)) = true := by rfl)
    (hline : (apos.endLine == cpos.line) = true := by rfl) (hs : starEach (e :: es) X.env = (false, eval e X.env) :: starEach es X.env := by rfl) (hplain : (backTo cpos (starEach es X.env)).any (·.1) = false := by rfl) :
    PE X (.Call (.Attribute o name apos) (e :: es) [] cpos) (tBM K T r to t) := by
  subst hK
  exact pe_bm pa slot hty hm ho ha hbase hfew hline hs hplain
def uStrX : List V → Hp → VK → Prop := fun xs H Q => (∃ i, xs = [.int i] ∧ i.natAbs.log2 < 1920 ∧ Q (.str (toString i)) H) ∨ ∃ a, xs = [.str a] ∧ Q (.str a) H
theorem call_ustrX {X : Cx} : CallR X (.type "str") uStrX := CallR.or call_str_int SkE.call_str_str
def rJoin (K : PySem.W.Frag) : V → List V → Hp → VK → Prop := fun x xs H Q => ∃ a p, ∃ ys : List Str, x = .str a ∧ xs = [.ref p] ∧ (SqL K H p (ys.map V.str) ∨ SqT K H p (ys.map V.str)) ∧
    (ys.map (·.length)).sum + ys.length * a.length ≤ 16777216 ∧ Q (.str (Str.join a ys)) H
theorem mt_ujoin {X : Cx} {K : PySem.W.Frag} (hK : X.K = K := by rfl) : MtR X "str.join" (rJoin K) := by
  subst hK
  intro pins s σ H x xs v us Q I rx rs h
  obtain ⟨a, p, ys, e1, e2, h1, h2, q⟩ := h
  exact mt_join pins s σ H x xs v us Q I rx rs ⟨a, p, ys, e1, e2, h1, h2, by show Q (.str (Builtin.Str.glued a ys)) H; rw [PySem.StrLaws.glued_eq_join]; exact q⟩
theorem pe_orTU {X : Cx} {K : PySem.W.Frag} {a b : Expr} {ta tb : TE} {rest : List Expr} {pos : Pos} (ha : PE X a ta) (hb : PE X (.BoolOp .Or (b :: rest) pos) tb) (hK : X.K = K := by rfl) : PE X (.BoolOp .Or (a :: b :: rest) pos) (tOrT K ta tb) := by
  subst hK
  exact pe_orT ha hb
section
variable {te tf : TE} {σ : L2.St} {H : Hp} {K : PySem.W.Frag} {Q : VK} {td ty tx : TE}
theorem v_orT (h : te σ H fun x H1 => Tru K x H1 fun k => if k = true then Q x H1 else tf σ H1 Q) : tOrT K te tf σ H Q := h
theorem v_tru_s {P : Bool → Prop} {z : Str} (hz : z.length ≤ sizeLine) (h : P ((z.length : Int) != 0)) : Tru K (.str z) H P := ⟨_, ⟨hz, rfl⟩, h⟩
def IsDA (x : V) (H : Hp) (P : Addr → Prop) : Prop := ∃ a, x = .ref a ∧ IsD H a ∧ P a
def DGot (a : Addr) (y : V) (H : Hp) (P : Option V → Prop) : Prop := ∃ o, DGet H a y o ∧ P o
theorem v_dget2 (h : td σ H fun x H1 => IsDA x H1 fun a => ty σ H1 fun y H2 => tx σ H2 fun z H3 => DGot a y H3 fun o => Q (o.getD z) H3) : tDGet2 td ty tx σ H Q := h
theorem v_isda {a : Addr} {kvs : List (Key × V)} {P : Addr → Prop} (e : H a = some (.dK kvs)) (h : P a) : IsDA (.ref a) H P := ⟨a, rfl, .inl ⟨kvs, .inl e⟩, h⟩
theorem v_dgot {a : Addr} {y : V} {o : Option V} {P : Option V → Prop} (g : DGet H a y o) (h : P o) : DGot a y H P := ⟨o, g, h⟩
theorem v_str_i {i : Int} (hi : i.natAbs.log2 < 1920) (q : Q (.str (toString i)) H) : uStrX [.int i] H Q := .inl ⟨i, rfl, hi, q⟩
theorem v_str_s {z : Str} (q : Q (.str z) H) : uStrX [.str z] H Q := .inr ⟨z, rfl, q⟩
theorem v_join_l {a : Str} {p : Addr} {ys : List Str} (h : SqL K H p (ys.map V.str)) (hl : (ys.map (·.length)).sum + ys.length * a.length ≤ 16777216) (q : Q (.str (Str.join a ys)) H) : rJoin K (.str a) [.ref p] H Q := ⟨a, p, ys, rfl, rfl, .inl h, hl, q⟩
theorem v_ipL {a b : Addr} {xs zs : List V} (h1 : H a = some (.lst xs)) (h2 : H b = some (.lst zs)) (hl : xs.length + zs.length ≤ sizeLine) (q : ∀ H', Chg [a] H H' → H' a = some (.lst (xs ++ zs)) → Q (.ref a) H') : ipL (.ref a) (.ref b) H Q :=
  ⟨a, b, xs, zs, rfl, rfl, h1, h2, hl, q _ (Chg.set h1 (by intro _ e; cases e)) upd_same⟩
end
/-! ## 22. programs as texts -/
def iS (i : Int) : Str := toString i
theorem iS_len {i : Int} (h0 : 0 ≤ i) (h1 : i < 1000000) : (iS i).length ≤ 7 := by
  unfold iS
  have := int_text_length_le10 (a := i) (k := 6) (by decide) (by omega)
  show (Str.ofString (toString i)).length ≤ 7
  rw [PySem.ofString_length]; omega
theorem log2_small {i : Int} (h0 : 0 ≤ i) (h1 : i < 1000000) : i.natAbs.log2 < 1920 := by
  by_cases hz : i.natAbs = 0
  · rw [hz]; decide
  · refine (Nat.log2_lt hz).mpr (Nat.lt_of_lt_of_le (show i.natAbs < 2 ^ 20 by omega) (Nat.pow_le_pow_right (by decide) (by decide)))
def sp1 : Str := Str.ofString " "
def Vl.words : Vl → List Str
  | .num i => [Str.ofString "number", iS i]
  | .box z => [Str.ofString "box", z]
  | .size z => [Str.ofString "size", z]
  | .neg v => Str.ofString "not" :: v.words
  | .item z v => Str.ofString "item" :: z :: v.words
  | .bin w a b => w :: (a.words ++ b.words)
def Vl.txt (v : Vl) : Str := Str.join sp1 v.words
theorem Vl.words_ne : ∀ v : Vl, v.words ≠ [] := by intro v; cases v <;> simp [Vl.words]
theorem str_assoc (a b c : Str) : a ++ b ++ c = a ++ (b ++ c) := by
  have : ∀ x y : Str, x.cps.toList = y.cps.toList → x = y := fun x y h => by cases x; cases y; simp only [Str.mk.injEq]; exact Array.toList_inj.mp h
  apply this
  show ((a.cps ++ b.cps) ++ c.cps).toList = (a.cps ++ (b.cps ++ c.cps)).toList
  simp
theorem join_cons (s x : Str) {l : List Str} (h : l ≠ []) : Str.join s (x :: l) = x ++ s ++ Str.join s l := by
  cases l with
  | nil => exact absurd rfl h
  | cons y l => rfl
theorem join_app (s : Str) : ∀ (a b : List Str), a ≠ [] → b ≠ [] → Str.join s (a ++ b) = Str.join s a ++ s ++ Str.join s b
  | [], _, h, _ => absurd rfl h
  | [x], b, _, hb => by rw [List.singleton_append, join_cons s x hb]; rfl
  | x :: y :: a, b, _, hb => by
    rw [List.cons_append, join_cons s x (by simp), join_app s (y :: a) b (by simp) hb, join_cons s x (by simp)]
    simp only [str_assoc]
theorem join_one (s x : Str) : Str.join s [x] = x := rfl
theorem join_two (s x y : Str) : Str.join s [x, y] = x ++ s ++ y := rfl
theorem join_three (s x y z : Str) : Str.join s [x, y, z] = x ++ s ++ (y ++ s ++ z) := rfl
theorem join_in (s : Str) (x : Str) (l : List Str) (h : l ≠ []) : Str.join s [x, Str.join s l] = Str.join s (x :: l) := by rw [join_two, join_cons s x h]
/-- lengths, with a blank each -/
def wl (l : List Str) : Nat := (l.map fun z => z.length + 1).sum
theorem wl_app (a b : List Str) : wl (a ++ b) = wl a + wl b := by simp [wl]
theorem wl_cons (a : Str) (b : List Str) : wl (a :: b) = a.length + 1 + wl b := by simp [wl]
theorem wl_sum (l : List Str) : (l.map (·.length)).sum + l.length * 1 = wl l := by
  induction l with
  | nil => rfl
  | cons x l ih => rw [wl_cons]; simp only [List.map_cons, List.sum_cons, List.length_cons]; omega
theorem join_len (l : List Str) : (Str.join sp1 l).length ≤ wl l := by
  have := PySem.StrLaws.join_length_le sp1 l
  have e : sp1.length = 1 := rfl
  rw [e, wl_sum] at this
  exact this
theorem bin_len : ∀ w ∈ binW, w.length ≤ 5 := by decide +kernel
theorem Vl.wl_words {B L : Str → Prop} (hB : ∀ z, B z → isNm z = true) (hL : ∀ z, L z → isNm z = true) : ∀ v : Vl, v.ok B L → wl v.words ≤ 16 * 2 ^ v.dp - 16
  | .num i, h => by
    have := iS_len h.1 h.2
    simp only [Vl.words, wl_cons, Vl.dp]
    show 6 + 1 + ((iS i).length + 1 + 0) ≤ _
    omega
  | .box z, h => by
    have hz : z.length ≤ 6 := by have := hB z h; simp only [isNm, Bool.and_eq_true, decide_eq_true_eq] at this; omega
    simp only [Vl.words, wl_cons, Vl.dp]
    show 3 + 1 + (z.length + 1 + 0) ≤ _
    omega
  | .size z, h => by
    have hz : z.length ≤ 6 := by have := hL z h; simp only [isNm, Bool.and_eq_true, decide_eq_true_eq] at this; omega
    simp only [Vl.words, wl_cons, Vl.dp]
    show 4 + 1 + (z.length + 1 + 0) ≤ _
    omega
  | .neg v, h => by
    have ih := Vl.wl_words hB hL v h
    have hp : 2 ≤ 2 ^ v.dp := by
      have : 1 ≤ v.dp := by cases v <;> simp [Vl.dp]
      calc 2 = 2 ^ 1 := rfl
        _ ≤ 2 ^ v.dp := Nat.pow_le_pow_right (by decide) this
    simp only [Vl.words, wl_cons, Vl.dp, Nat.pow_succ]
    show 3 + 1 + _ ≤ _
    omega
  | .item z v, h => by
    have hz : z.length ≤ 6 := by have := hL z h.1; simp only [isNm, Bool.and_eq_true, decide_eq_true_eq] at this; omega
    have ih := Vl.wl_words hB hL v h.2
    have hp : 2 ≤ 2 ^ v.dp := by
      have : 1 ≤ v.dp := by cases v <;> simp [Vl.dp]
      calc 2 = 2 ^ 1 := rfl
        _ ≤ 2 ^ v.dp := Nat.pow_le_pow_right (by decide) this
    simp only [Vl.words, wl_cons, Vl.dp, Nat.pow_succ]
    show 4 + 1 + _ ≤ _
    omega
  | .bin w a b, h => by
    have hw := bin_len w h.1
    have iha := Vl.wl_words hB hL a h.2.1
    have ihb := Vl.wl_words hB hL b h.2.2
    have pa : 2 ^ a.dp ≤ 2 ^ (max a.dp b.dp) := Nat.pow_le_pow_right (by decide) (by omega)
    have pb : 2 ^ b.dp ≤ 2 ^ (max a.dp b.dp) := Nat.pow_le_pow_right (by decide) (by omega)
    have hp : 2 ≤ 2 ^ a.dp := by
      have : 1 ≤ a.dp := by cases a <;> simp [Vl.dp]
      calc 2 = 2 ^ 1 := rfl
        _ ≤ 2 ^ a.dp := Nat.pow_le_pow_right (by decide) this
    simp only [Vl.words, wl_cons, wl_app, Vl.dp, Nat.pow_succ]
    omega
/-! parts of a value -/
def Vl.head : Vl → Str
  | .num _ => Str.ofString "number"
  | .box _ => Str.ofString "box"
  | .size _ => Str.ofString "size"
  | .neg _ => Str.ofString "not"
  | .item .. => Str.ofString "item"
  | .bin w _ _ => w
def Vl.ar : Vl → Int
  | .num _ => 0
  | .box _ => 0
  | .size _ => 0
  | .neg _ => 1
  | .item .. => 1
  | .bin .. => 2
def Vl.parts : Vl → List (Str ⊕ Vl)
  | .neg v => [.inr v]
  | .item z v => [.inl z, .inr v]
  | .bin _ a b => [.inr a, .inr b]
  | _ => []
def pD : Str ⊕ Vl → D
  | .inl z => .str z
  | .inr v => v.d
def pW : Str ⊕ Vl → List Str
  | .inl z => [z]
  | .inr v => v.words
def pT : Str ⊕ Vl → Str
  | .inl z => z
  | .inr v => v.txt
theorem Vl.d_parts {v : Vl} (h : v.ar ≠ 0) : v.d = .tup (.str v.head :: v.parts.map pD) := by cases v <;> first | rfl | exact absurd rfl h
theorem Vl.w_parts {v : Vl} (h : v.ar ≠ 0) : v.words = v.head :: v.parts.flatMap pW := by cases v <;> first | exact absurd rfl h | simp [Vl.words, Vl.head, Vl.parts, pW]
theorem Vl.t_parts {v : Vl} (h : v.ar ≠ 0) : Str.join sp1 (v.head :: v.parts.map pT) = v.txt := by
  cases v with
  | neg v => exact join_in sp1 _ _ v.words_ne
  | item z v =>
    show Str.join sp1 [_, z, Str.join sp1 v.words] = Str.join sp1 (_ :: z :: v.words)
    rw [join_cons _ _ (by simp), join_in _ _ _ v.words_ne, join_cons sp1 (Str.ofString "item") (l := z :: v.words) (by simp)]
    rfl
  | bin w a b =>
    show Str.join sp1 [w, Str.join sp1 a.words, Str.join sp1 b.words] = Str.join sp1 (w :: (a.words ++ b.words))
    have hne : a.words ++ b.words ≠ [] := by simp [a.words_ne]
    rw [join_cons sp1 w hne, join_app _ _ _ a.words_ne b.words_ne, join_cons _ _ (by simp), join_two]
  | _ => exact absurd rfl h
theorem bin_not : ∀ w ∈ binW, w ∉ ([Str.ofString "number", "box", "size"] : List Str) ∧ w ∉ ([Str.ofString "not", "item"] : List Str) ∧ w ∈ ([Str.ofString "plus", "minus", "times", "over", "rest", "less", "same"] : List Str) := by decide +kernel
theorem leaf_heads : (Str.ofString "number" ∈ ([Str.ofString "number", "box", "size"] : List Str)) ∧ (Str.ofString "box" ∈ ([Str.ofString "number", "box", "size"] : List Str)) ∧ (Str.ofString "size" ∈ ([Str.ofString "number", "box", "size"] : List Str)) ∧
    (Str.ofString "not" ∉ ([Str.ofString "number", "box", "size"] : List Str)) ∧ (Str.ofString "item" ∉ ([Str.ofString "number", "box", "size"] : List Str)) ∧ (Str.ofString "not" ∈ ([Str.ofString "not", "item"] : List Str)) ∧ (Str.ofString "item" ∈ ([Str.ofString "not", "item"] : List Str)) := by decide +kernel
theorem Vl.leaf {B L : Str → Prop} {v : Vl} (h : v.ok B L) : v.head ∈ ([Str.ofString "number", "box", "size"] : List Str) ↔ v.ar = 0 := by
  obtain ⟨h1, h2, h3, h4, h5, h6, h7⟩ := leaf_heads
  cases v with
  | num i => exact ⟨fun _ => rfl, fun _ => h1⟩
  | box i => exact ⟨fun _ => rfl, fun _ => h2⟩
  | size i => exact ⟨fun _ => rfl, fun _ => h3⟩
  | neg v => exact ⟨fun z => absurd z h4, fun z => by cases z⟩
  | item z v => exact ⟨fun z => absurd z h5, fun z => by cases z⟩
  | bin w a b => exact ⟨fun z => absurd z (bin_not w h.1).1, fun z => by cases z⟩
theorem Vl.one {B L : Str → Prop} {v : Vl} (h : v.ok B L) (h0 : v.ar ≠ 0) : v.head ∈ ([Str.ofString "not", "item"] : List Str) ↔ v.ar = 1 := by
  obtain ⟨h1, h2, h3, h4, h5, h6, h7⟩ := leaf_heads
  cases v with
  | num i => exact absurd rfl h0
  | box i => exact absurd rfl h0
  | size i => exact absurd rfl h0
  | neg v => exact ⟨fun _ => rfl, fun _ => h6⟩
  | item z v => exact ⟨fun _ => rfl, fun _ => h7⟩
  | bin w a b => exact ⟨fun z => absurd z (bin_not w h.1).2.1, fun z => by cases z⟩
theorem Vl.two {B L : Str → Prop} {v : Vl} (h : v.ok B L) (h0 : v.ar ≠ 0) (h1 : v.ar ≠ 1) : v.head ∈ ([Str.ofString "plus", "minus", "times", "over", "rest", "less", "same"] : List Str) ∧ v.ar = 2 := by
  cases v with
  | num i => exact absurd rfl h0
  | box i => exact absurd rfl h0
  | size i => exact absurd rfl h0
  | neg v => exact absurd rfl h1
  | item z v => exact absurd rfl h1
  | bin w a b => exact ⟨(bin_not w h.1).2.2, rfl⟩
theorem Vl.part_ok {B L : Str → Prop} {v u : Vl} (h : v.ok B L) (m : .inr u ∈ v.parts) : u.ok B L ∧ u.dp + 1 ≤ v.dp := by
  cases v <;> simp only [Vl.parts, List.mem_cons, List.not_mem_nil, or_false, Sum.inr.injEq, reduceCtorEq, false_or] at m
  · subst m; exact ⟨h, by simp [Vl.dp]⟩
  · subst m; exact ⟨h.2, by simp [Vl.dp]⟩
  · rcases m with rfl | rfl
    · exact ⟨h.2.1, by simp only [Vl.dp]; omega⟩
    · exact ⟨h.2.2, by simp only [Vl.dp]; omega⟩
theorem Vl.part_nm {B L : Str → Prop} {v : Vl} {z : Str} (h : v.ok B L) (m : .inl z ∈ v.parts) : L z := by
  cases v <;> simp only [Vl.parts, List.mem_cons, List.not_mem_nil, or_false, Sum.inl.injEq, reduceCtorEq, false_or] at m
  · subst m; exact h.1
theorem cutV_tail (x : V) (xs : List V) : cutV (x :: xs) (some 1) none = xs := by
  show (List.drop (HT.sIx (x :: xs).length 0 (some 1)) (x :: xs)).take ((x :: xs).length - HT.sIx (x :: xs).length 0 (some 1)) = xs
  have e : HT.sIx (x :: xs).length 0 (some 1) = 1 := by
    rw [show (some (1 : Int)) = some ((1 : Nat) : Int) from rfl, HT.sIx_nat, List.length_cons]; omega
  rw [e, List.drop_succ_cons, List.drop_zero, List.length_cons]
  exact List.take_of_length_le (by omega)
/-! rows as texts -/
inductive Pt where
  | tx (z : Str)
  | vl (v : Vl)
  | vls (vs : List Vl)
def Pt.d : Pt → D
  | .tx z => .str z
  | .vl v => v.d
  | .vls vs => .tup (vs.map Vl.d)
def Pt.w : Pt → List Str
  | .tx z => [z]
  | .vl v => [v.txt]
  | .vls vs => vs.map Vl.txt
def En.head : En → String
  | .inl _ => "def"
  | .inr (.set ..) => "set"
  | .inr (.push ..) => "push"
  | .inr (.pop ..) => "pop"
  | .inr (.put ..) => "put"
  | .inr (.ask ..) => "ask"
  | .inr (.tell ..) => "tell"
  | .inr (.fail ..) => "fail"
  | .inr (.call ..) => "call"
  | .inr (.ret ..) => "return"
  | .inr (.ife ..) => "if"
  | .inr (.whl ..) => "while"
  | .inr (.tr ..) => "try"
def En.parts : En → List Pt
  | .inl n => [.tx n]
  | .inr (.set x v) => [.tx x, .vl v]
  | .inr (.push x v) => [.tx x, .vl v]
  | .inr (.pop x l) => [.tx x, .tx l]
  | .inr (.put l v u) => [.tx l, .vl v, .vl u]
  | .inr (.ask x d) => [.tx x, .tx d]
  | .inr (.tell v) => [.vl v]
  | .inr (.fail v) => [.vl v]
  | .inr (.call x f vs) => [.tx x, .tx f, .vls vs]
  | .inr (.ret v) => [.vl v]
  | .inr (.ife v _ _) => [.vl v]
  | .inr (.whl v _) => [.vl v]
  | .inr (.tr ..) => []
def En.words (e : En) : List Str := Str.ofString e.head :: e.parts.flatMap Pt.w
def En.txt (e : En) : Str := Str.join sp1 e.words
def En.nest (e : En) : Prop := e.head = "if" ∨ e.head = "while" ∨ e.head = "try"
theorem En.d_parts {e : En} (h : ¬ e.nest) : dE e = .tup (.str e.head :: e.parts.map Pt.d) := by
  rcases e with n | r
  · rfl
  · cases r with
    | ife => exact absurd (.inl rfl) h
    | whl => exact absurd (.inr (.inl rfl)) h
    | tr => exact absurd (.inr (.inr rfl)) h
    | _ => first | rfl | (simp only [dE, Rw.d]; rfl)
theorem En.cases (e : En) : (∃ v a b, e = .inr (.ife v a b)) ∨ (∃ v a, e = .inr (.whl v a)) ∨ (∃ a x b, e = .inr (.tr a x b)) ∨ (e.head ≠ "if" ∧ e.head ≠ "while" ∧ e.head ≠ "try" ∧ ¬ e.nest) := by
  rcases e with n | r
  · exact .inr (.inr (.inr (by simp [En.head, En.nest])))
  · cases r with
    | ife v a b => exact .inl ⟨v, a, b, rfl⟩
    | whl v a => exact .inr (.inl ⟨v, a, rfl⟩)
    | tr a x b => exact .inr (.inr (.inl ⟨a, x, b, rfl⟩))
    | _ => exact .inr (.inr (.inr (by simp [En.head, En.nest])))
theorem En.part_call {e : En} {vs : List Vl} (h : Pt.vls vs ∈ e.parts) : e.head = "call" := by
  rcases e with n | r
  · simp [En.parts] at h
  · cases r <;> simp [En.parts] at h <;> rfl
theorem En.part_val {e : En} {v : Vl} (h : Pt.vl v ∈ e.parts) : e.head ≠ "call" := by
  rcases e with n | r
  · simp [En.parts] at h
  · cases r <;> simp [En.parts] at h <;> simp [En.head]
/-- what is asked of a row to be told -/
def En.ok (e : En) : Prop := ∃ N : Nms, N.nm ∧ match e with
  | .inl n => isNm n = true
  | .inr r => r.ok N
theorem Nms.len {N : Nms} (h : N.nm) : (∀ z, N.B z → z.length ≤ 6) ∧ (∀ z, N.L z → z.length ≤ 6) ∧ (∀ z n, N.F z n → z.length ≤ 6) ∧ (∀ z, N.Dr z → z.length ≤ 6) := by
  have k : ∀ z : Str, isNm z = true → z.length ≤ 6 := fun z hz => by simp only [isNm, Bool.and_eq_true, decide_eq_true_eq] at hz; omega
  exact ⟨fun z hz => k z (h.1 z hz), fun z hz => k z (h.2.1 z hz), fun z n hz => k z (h.2.2.1 z n hz), fun z hz => k z (h.2.2.2 z hz)⟩
theorem Vl.txt_len {N : Nms} (hN : N.nm) {v : Vl} (h : v.ok4 N) : v.txt.length ≤ 240 := by
  have h1 := join_len v.words
  have h2 := Vl.wl_words hN.1 hN.2.1 v h.1
  have h3 : 2 ^ v.dp ≤ 2 ^ 4 := Nat.pow_le_pow_right (by decide) h.2
  unfold Vl.txt
  omega
theorem wl_txts {N : Nms} (hN : N.nm) : ∀ {vs : List Vl}, (∀ v ∈ vs, v.ok4 N) → wl (vs.map Vl.txt) ≤ 241 * vs.length
  | [], _ => Nat.zero_le _
  | v :: vs, h => by
    have h1 := Vl.txt_len hN (h v List.mem_cons_self)
    have h2 := wl_txts hN (vs := vs) fun u hu => h u (List.mem_cons_of_mem _ hu)
    rw [List.map_cons, wl_cons, List.length_cons]; omega
theorem En.wl_words {e : En} (h : e.ok) : wl e.words ≤ 800 := by
  obtain ⟨N, hN, h⟩ := h
  obtain ⟨l1, l2, l3, l4⟩ := Nms.len hN
  rcases e with n | r
  · have : n.length ≤ 6 := by have := h; simp only [isNm, Bool.and_eq_true, decide_eq_true_eq] at this; omega
    simp only [En.words, En.head, En.parts, List.flatMap_cons, List.flatMap_nil, Pt.w, List.append_nil, wl_cons]
    show 3 + 1 + (n.length + 1 + 0) ≤ _
    omega
  · cases r with
    | set x v =>
      have := l1 x h.1; have := Vl.txt_len hN h.2
      simp only [En.words, En.head, En.parts, List.flatMap_cons, List.flatMap_nil, Pt.w, List.append_nil, List.cons_append, List.nil_append, wl_cons]
      show 3 + 1 + (x.length + 1 + (v.txt.length + 1 + 0)) ≤ _
      omega
    | push x v =>
      have := l2 x h.1; have := Vl.txt_len hN h.2
      simp only [En.words, En.head, En.parts, List.flatMap_cons, List.flatMap_nil, Pt.w, List.append_nil, List.cons_append, List.nil_append, wl_cons]
      show 4 + 1 + (x.length + 1 + (v.txt.length + 1 + 0)) ≤ _
      omega
    | pop x v =>
      have := l1 x h.1; have := l2 v h.2
      simp only [En.words, En.head, En.parts, List.flatMap_cons, List.flatMap_nil, Pt.w, List.append_nil, List.cons_append, List.nil_append, wl_cons]
      show 3 + 1 + (x.length + 1 + (v.length + 1 + 0)) ≤ _
      omega
    | put l v u =>
      have := l2 l h.1; have := Vl.txt_len hN h.2.1; have := Vl.txt_len hN h.2.2
      simp only [En.words, En.head, En.parts, List.flatMap_cons, List.flatMap_nil, Pt.w, List.append_nil, List.cons_append, List.nil_append, wl_cons]
      show 3 + 1 + (l.length + 1 + (v.txt.length + 1 + (u.txt.length + 1 + 0))) ≤ _
      omega
    | ask x d =>
      have := l1 x h.1; have := l4 d h.2
      simp only [En.words, En.head, En.parts, List.flatMap_cons, List.flatMap_nil, Pt.w, List.append_nil, List.cons_append, List.nil_append, wl_cons]
      show 3 + 1 + (x.length + 1 + (d.length + 1 + 0)) ≤ _
      omega
    | tell v =>
      have := Vl.txt_len hN h
      simp only [En.words, En.head, En.parts, List.flatMap_cons, List.flatMap_nil, Pt.w, List.append_nil, List.cons_append, List.nil_append, wl_cons]
      show 4 + 1 + (v.txt.length + 1 + 0) ≤ _
      omega
    | fail v =>
      have := Vl.txt_len hN h
      simp only [En.words, En.head, En.parts, List.flatMap_cons, List.flatMap_nil, Pt.w, List.append_nil, List.cons_append, List.nil_append, wl_cons]
      show 4 + 1 + (v.txt.length + 1 + 0) ≤ _
      omega
    | call x f vs =>
      have := l1 x h.1; have := l3 f _ h.2.1; have := wl_txts hN h.2.2.2; have := h.2.2.1
      simp only [En.words, En.head, En.parts, List.flatMap_cons, List.flatMap_nil, Pt.w, List.append_nil, List.cons_append, List.nil_append, wl_cons]
      show 4 + 1 + (x.length + 1 + (f.length + 1 + wl (vs.map Vl.txt))) ≤ _
      omega
    | ret v =>
      have := Vl.txt_len hN h.2
      simp only [En.words, En.head, En.parts, List.flatMap_cons, List.flatMap_nil, Pt.w, List.append_nil, List.cons_append, List.nil_append, wl_cons]
      show 6 + 1 + (v.txt.length + 1 + 0) ≤ _
      omega
    | ife v a b =>
      have := Vl.txt_len hN h.1
      simp only [En.words, En.head, En.parts, List.flatMap_cons, List.flatMap_nil, Pt.w, List.append_nil, List.cons_append, List.nil_append, wl_cons]
      show 2 + 1 + (v.txt.length + 1 + 0) ≤ _
      omega
    | whl v a =>
      have := Vl.txt_len hN h.1
      simp only [En.words, En.head, En.parts, List.flatMap_cons, List.flatMap_nil, Pt.w, List.append_nil, List.cons_append, List.nil_append, wl_cons]
      show 5 + 1 + (v.txt.length + 1 + 0) ≤ _
      omega
    | tr a x b =>
      simp only [En.words, En.head, En.parts, List.flatMap_nil, wl_cons]
      show 3 + 1 + 0 ≤ _
      omega
theorem En.txt_len {e : En} (h : e.ok) : e.txt.length ≤ 800 := Nat.le_trans (join_len _) (En.wl_words h)
/-! lines -/
def sp2 : Str := Str.ofString "  "
def elseL (ah : Str) (b : List Rw) : List Str := match b with | [] => [] | _ :: _ => [ah ++ Str.ofString "else"]
mutual
def linesR : Str → Rw → List Str
  | ah, .ife v a b => (ah ++ En.txt (.inr (.ife v a b))) :: (linesRs (ah ++ sp2) a ++ (elseL ah b ++ linesRs (ah ++ sp2) b) ++ [ah ++ Str.ofString "end"])
  | ah, .whl v a => (ah ++ En.txt (.inr (.whl v a))) :: (linesRs (ah ++ sp2) a ++ [ah ++ Str.ofString "end"])
  | ah, .tr a x b => (ah ++ En.txt (.inr (.tr a x b))) :: (linesRs (ah ++ sp2) a ++ ([ah ++ Str.ofString "catch " ++ x] ++ linesRs (ah ++ sp2) b) ++ [ah ++ Str.ofString "end"])
  | ah, r => [ah ++ En.txt (.inr r)]
def linesRs : Str → List Rw → List Str
  | _, [] => []
  | ah, r :: l => linesR ah r ++ linesRs ah l
end
theorem linesRs_app : ∀ (ah : Str) (l m : List Rw), linesRs ah (l ++ m) = linesRs ah l ++ linesRs ah m
  | ah, [], m => by simp [linesRs]
  | ah, r :: l, m => by rw [List.cons_append, linesRs, linesRs, linesRs_app ah l m, List.append_assoc]
theorem linesRs_one (ah : Str) (r : Rw) : linesRs ah [r] = linesR ah r := by rw [linesRs, linesRs, List.append_nil]
theorem linesR_ife (ah : Str) (v : Vl) (a b : List Rw) : linesR ah (.ife v a b) = (ah ++ En.txt (.inr (.ife v a b))) :: (linesRs (ah ++ sp2) a ++ (elseL ah b ++ linesRs (ah ++ sp2) b) ++ [ah ++ Str.ofString "end"]) := by rw [linesR]
theorem linesR_plain {ah : Str} {r : Rw} (h : ¬ En.nest (.inr r)) : linesR ah r = [ah ++ En.txt (.inr r)] := by
  cases r with
  | ife => exact absurd (.inl rfl) h
  | whl => exact absurd (.inr (.inl rfl)) h
  | tr => exact absurd (.inr (.inr rfl)) h
  | _ => simp only [linesR]
theorem elseL_len (ah : Str) (b : List Rw) : (elseL ah b).length ≤ 1 := by cases b <;> simp [elseL]
def Rw.okx (r : Rw) : Prop := ∃ N : Nms, N.nm ∧ r.ok N
def Rw.oksx (l : List Rw) : Prop := ∃ N : Nms, N.nm ∧ Rw.oks N l
theorem Rw.okx_en {r : Rw} (h : r.okx) : En.ok (.inr r) := h
theorem Rw.oksx_mem {l : List Rw} {r : Rw} (h : Rw.oksx l) (m : r ∈ l) : r.okx := by
  obtain ⟨N, hN, h⟩ := h
  exact ⟨N, hN, Rw.oks_iff.mp h r m⟩
theorem Rw.okx_ins {r : Rw} {s : List Rw} (h : r.okx) (m : s ∈ r.ins) : Rw.oksx s := by
  obtain ⟨N, hN, h⟩ := h
  refine ⟨N, hN, ?_⟩
  cases r <;> simp only [Rw.ins, List.mem_cons, List.not_mem_nil, or_false] at m
  · rcases m with rfl | rfl
    · exact h.2.1
    · exact h.2.2
  · subst m; exact h.2
  · rcases m with rfl | rfl
    · exact h.2.1
    · exact h.2.2
mutual
theorem len_linesR : ∀ (r : Rw) (ah : Str), (linesR ah r).length ≤ 3 * r.cnt
  | .ife v a b, ah => by
    have h1 := len_linesRs a (ah ++ sp2); have h2 := len_linesRs b (ah ++ sp2); have h3 := elseL_len ah b
    rw [linesR_ife]; simp only [List.length_cons, List.length_append, List.length_nil, Rw.cnt]; omega
  | .whl v a, ah => by
    have h1 := len_linesRs a (ah ++ sp2)
    rw [linesR]; simp only [List.length_cons, List.length_append, List.length_nil, Rw.cnt]; omega
  | .tr a x b, ah => by
    have h1 := len_linesRs a (ah ++ sp2); have h2 := len_linesRs b (ah ++ sp2)
    rw [linesR]; simp only [List.length_cons, List.length_append, List.length_nil, Rw.cnt]; omega
  | .set .., _ => by simp [linesR, Rw.cnt]
  | .push .., _ => by simp [linesR, Rw.cnt]
  | .pop .., _ => by simp [linesR, Rw.cnt]
  | .put .., _ => by simp [linesR, Rw.cnt]
  | .ask .., _ => by simp [linesR, Rw.cnt]
  | .tell .., _ => by simp [linesR, Rw.cnt]
  | .fail .., _ => by simp [linesR, Rw.cnt]
  | .call .., _ => by simp [linesR, Rw.cnt]
  | .ret .., _ => by simp [linesR, Rw.cnt]
theorem len_linesRs : ∀ (l : List Rw) (ah : Str), (linesRs ah l).length ≤ 3 * Rw.cnts l
  | [], _ => by simp [linesRs]
  | r :: l, ah => by
    have h1 := len_linesR r ah; have h2 := len_linesRs l ah
    rw [linesRs, List.length_append, Rw.cnts]; omega
end
def Short (m : Nat) (ls : List Str) : Prop := ∀ z ∈ ls, z.length ≤ m
theorem Short.app {m : Nat} {a b : List Str} (h : Short m a) (h' : Short m b) : Short m (a ++ b) := fun z hz => (List.mem_append.mp hz).elim (h z) (h' z)
theorem Short.cons {m : Nat} {a : Str} {b : List Str} (h : a.length ≤ m) (h' : Short m b) : Short m (a :: b) := fun z hz => (List.mem_cons.mp hz).elim (fun e => by rw [e]; exact h) (h' z)
theorem Short.nil {m : Nat} : Short m [] := fun _ h => by cases h
theorem wl_short {m : Nat} : ∀ {l : List Str}, Short m l → wl l ≤ l.length * (m + 1)
  | [], _ => Nat.zero_le _
  | x :: l, h => by
    have h1 := h x List.mem_cons_self
    have h2 := wl_short (l := l) fun z hz => h z (List.mem_cons_of_mem _ hz)
    rw [wl_cons, List.length_cons, Nat.succ_mul]; omega
theorem sla (a b : Str) : (a ++ b).length = a.length + b.length := Str.length_append a b
mutual
theorem short_linesR : ∀ (r : Rw) (ah : Str), r.okx → ah.length + 2 * r.dpt ≤ 100 → Short 1000 (linesR ah r)
  | .ife v a b, ah, h, hl => by
    simp only [Rw.dpt] at hl
    have h1 := short_linesRs a (ah ++ sp2) (Rw.okx_ins h (by simp [Rw.ins])) (by rw [sla]; show ah.length + 2 + _ ≤ _; omega)
    have h2 := short_linesRs b (ah ++ sp2) (Rw.okx_ins h (by simp [Rw.ins])) (by rw [sla]; show ah.length + 2 + _ ≤ _; omega)
    have ht := En.txt_len (Rw.okx_en h)
    have h3 : Short 1000 (elseL ah b) := by
      cases b
      · exact .nil
      · exact .cons (by rw [sla]; show ah.length + 4 ≤ _; omega) .nil
    rw [linesR_ife]
    exact .cons (by rw [sla]; omega) ((h1.app (h3.app h2)).app (.cons (by rw [sla]; show ah.length + 3 ≤ _; omega) .nil))
  | .whl v a, ah, h, hl => by
    simp only [Rw.dpt] at hl
    have h1 := short_linesRs a (ah ++ sp2) (Rw.okx_ins h (by simp [Rw.ins])) (by rw [sla]; show ah.length + 2 + _ ≤ _; omega)
    have ht := En.txt_len (Rw.okx_en h)
    rw [linesR]
    exact .cons (by rw [sla]; omega) (h1.app (.cons (by rw [sla]; show ah.length + 3 ≤ _; omega) .nil))
  | .tr a x b, ah, h, hl => by
    simp only [Rw.dpt] at hl
    have h1 := short_linesRs a (ah ++ sp2) (Rw.okx_ins h (by simp [Rw.ins])) (by rw [sla]; show ah.length + 2 + _ ≤ _; omega)
    have h2 := short_linesRs b (ah ++ sp2) (Rw.okx_ins h (by simp [Rw.ins])) (by rw [sla]; show ah.length + 2 + _ ≤ _; omega)
    have ht := En.txt_len (Rw.okx_en h)
    have hx : x.length ≤ 6 := by
      obtain ⟨N, hN, h⟩ := h
      exact (Nms.len hN).1 x h.1
    rw [linesR]
    exact .cons (by rw [sla]; omega) ((h1.app (.cons (by rw [sla, sla]; show ah.length + 6 + x.length ≤ _; omega) h2)).app (.cons (by rw [sla]; show ah.length + 3 ≤ _; omega) .nil))
  | .set .., ah, h, hl => by have ht := En.txt_len (Rw.okx_en h); rw [linesR_plain (by simp [En.nest, En.head])]; exact .cons (by rw [sla]; omega) .nil
  | .push .., ah, h, hl => by have ht := En.txt_len (Rw.okx_en h); rw [linesR_plain (by simp [En.nest, En.head])]; exact .cons (by rw [sla]; omega) .nil
  | .pop .., ah, h, hl => by have ht := En.txt_len (Rw.okx_en h); rw [linesR_plain (by simp [En.nest, En.head])]; exact .cons (by rw [sla]; omega) .nil
  | .put .., ah, h, hl => by have ht := En.txt_len (Rw.okx_en h); rw [linesR_plain (by simp [En.nest, En.head])]; exact .cons (by rw [sla]; omega) .nil
  | .ask .., ah, h, hl => by have ht := En.txt_len (Rw.okx_en h); rw [linesR_plain (by simp [En.nest, En.head])]; exact .cons (by rw [sla]; omega) .nil
  | .tell .., ah, h, hl => by have ht := En.txt_len (Rw.okx_en h); rw [linesR_plain (by simp [En.nest, En.head])]; exact .cons (by rw [sla]; omega) .nil
  | .fail .., ah, h, hl => by have ht := En.txt_len (Rw.okx_en h); rw [linesR_plain (by simp [En.nest, En.head])]; exact .cons (by rw [sla]; omega) .nil
  | .call .., ah, h, hl => by have ht := En.txt_len (Rw.okx_en h); rw [linesR_plain (by simp [En.nest, En.head])]; exact .cons (by rw [sla]; omega) .nil
  | .ret .., ah, h, hl => by have ht := En.txt_len (Rw.okx_en h); rw [linesR_plain (by simp [En.nest, En.head])]; exact .cons (by rw [sla]; omega) .nil
theorem short_linesRs : ∀ (l : List Rw) (ah : Str), Rw.oksx l → ah.length + 2 * Rw.dpts l ≤ 100 → Short 1000 (linesRs ah l)
  | [], ah, _, _ => by rw [linesRs]; exact .nil
  | r :: l, ah, h, hl => by
    simp only [Rw.dpts] at hl
    have h1 := short_linesR r ah (Rw.oksx_mem h List.mem_cons_self) (by omega)
    have h2 := short_linesRs l ah (by obtain ⟨N, hN, h⟩ := h; exact ⟨N, hN, h.2⟩) (by omega)
    rw [linesRs]; exact h1.app h2
end
end RT

/-! ## 23. errors as values -/
namespace RT
open PySem PySem.Spec PyProof.Rows L2
def rIsX (K : PySem.W.Frag) : List V → Hp → VK → Prop := fun xs H Q => ∃ (a D : Addr) (c : V) (cv : Value) (b : Bool), xs = [.ref a, c] ∧ H a = some (ExO (.ref D) a) ∧ ExcC K D ∧ (∀ u, RelV c u → u = cv) ∧ PySem.W.kitOne K (.ref D) cv = some b ∧ Q (.bl b) H
theorem call_isX {X : Cx} {K : PySem.W.Frag} (hK : X.K = K := by rfl) : CallR X (.builtin "isinstance") (rIsX K) := by
  subst hK
  intro pins s σ H xs us Q I r h
  obtain ⟨a, D, c, cv, b, rfl, ha, C, hcv, e, q⟩ := h
  cases r with
  | cons rx rr =>
    cases rr with
    | cons rt rr =>
      cases rr
      cases rx
      have ec := hcv _ rt
      subst ec
      obtain ⟨⟨oe, vs, ho, hz, hv, _⟩, _, _⟩ := I.hok a _ ha
      have J : PySem.W.InstAt s.heap a oe D none := by
        obtain ⟨oc, od, oda, osl⟩ := oe
        obtain ⟨h1, h2⟩ := hz
        dsimp only at h1 h2 hv
        subst h1 h2 hv
        exact ⟨ho, rfl, rfl, trivial⟩
      exact PySem.W.kia_one (PySem.W.handS_kitx_exc C.hg C.hk C.hs C.hd C.ha C.hn C.ht C.hm) I.kIn J e (fun z => nomatch z) fun tk => ⟨.bl b, H, I.kept (t' := tk) fun _ _ z => z, rfl, q⟩
def tExc (C : Addr) (ta : TE) : TE := fun σ H Q => ta σ H fun _ H1 => ∀ a, H1 a = none → Q (.ref a) (upd H1 a (ExO (.ref C) a))
theorem pe_excU {X : Cx} {K : PySem.W.Frag} {x : Str} {mg : Str → Option Value} {e : Expr} {ta : TE} {p pos : Pos} (h : ExcAt K mg x) (he : PE X e ta) (hK : X.K = K := by rfl) (hm : X.mg = mg := by rfl) (hg : Gl X x := by rfl)
    (hs : starEach [e] X.env = (false, eval e X.env) :: starEach [] X.env := by rfl) (hdb : (x == ("__debug__" : Str)) = false := by decide) : PE X (.Call (.Name x p) [e] [] pos) (tExc h.C ta) := by
  subst hK hm
  exact pe_exc1 PySem.F.excBase_ValueError h.ex h.g h.kp hg he hs hdb
section
variable {te : TE} {σ : L2.St} {H : Hp} {K : PySem.W.Frag} {Q : VK}
def NewE (C : Addr) (H : Hp) (Q : VK) : Prop := ∀ a, H a = none → Q (.ref a) (upd H a (ExO (.ref C) a))
theorem v_exc {C : Addr} (h : te σ H fun _ H1 => NewE C H1 Q) : tExc C te σ H Q := h
theorem v_newE {C : Addr} (h : ∀ a H', H a = none → Chg [] H H' → H' a = some (ExO (.ref C) a) → Q (.ref a) H') : NewE C H Q := fun a ha => h a _ ha (.new ha) upd_same
theorem v_isX {a D : Addr} {c : V} {cv : Value} {b : Bool} (ha : H a = some (ExO (.ref D) a)) (C : ExcC K D) (hcv : ∀ u, RelV c u → u = cv) (hk : PySem.W.kitOne K (.ref D) cv = some b) (q : Q (.bl b) H) : rIsX K [.ref a, c] H Q := ⟨a, D, c, cv, b, rfl, ha, C, hcv, hk, q⟩
end
/-! ## 24. texts: partition, split, upper, slices, int -/
def uIntS : List V → Hp → VK → Prop := fun xs H Q => ∃ a n, xs = [.str a] ∧ PySem.intText? a = some n ∧ a.length ≤ 640 ∧ Q (.int n) H
theorem call_uintS {X : Cx} : CallR X (.type "int") uIntS := call_int_str
def uPart : V → List V → Hp → VK → Prop := fun x xs H Q => ∃ a b, x = .str a ∧ xs = [.str b] ∧ (b.length == 0) = false ∧ a.length ≤ sizeLine ∧
  ∀ p, H p = none → Q (.ref p) (upd H p (.tup [.str (Txt.partition a b).1, .str (Txt.partition a b).2.1, .str (Txt.partition a b).2.2]))
theorem mt_upart {X : Cx} : MtR X "str.partition" uPart := mt_partition
def uSplit : V → List V → Hp → VK → Prop := fun x xs H Q => ∃ a b, x = .str a ∧ xs = [.str b] ∧ (b.length == 0) = false ∧ a.length + 2 ≤ sizeLine ∧ rNewStrs (Txt.split a b) H Q
theorem mt_usplit {X : Cx} : MtR X "str.split" uSplit := mt_split
def uUpper : V → List V → Hp → VK → Prop := fun x xs H Q => ∃ a, x = .str a ∧ xs = [] ∧ a.length ≤ 5592405 ∧ Q (.str (Txt.upper a)) H
theorem mt_uupper {X : Cx} : MtR X "str.upper" uUpper := mt_upper
def uSlS (K : PySem.W.Frag) : V → Option Int → Option Int → Hp → VK → Prop := fun x lo hi H Q => uSl K x lo hi H Q ∨ rSlS x lo hi H Q
theorem sl_uS {X : Cx} {K : PySem.W.Frag} (hK : X.K = K := by rfl) : SlR X (uSlS K) := by
  subst hK
  exact SlR.or sl_u sl_str
section
variable {H : Hp} {K : PySem.W.Frag} {Q : VK}
theorem v_part_s {a b : Str} (hb : (b.length == 0) = false) (hl : a.length ≤ sizeLine) (q : ∀ p H', H p = none → Chg [] H H' → H' p = some (.tup [.str (Txt.partition a b).1, .str (Txt.partition a b).2.1, .str (Txt.partition a b).2.2]) → Q (.ref p) H') : uPart (.str a) [.str b] H Q :=
  ⟨a, b, rfl, rfl, hb, hl, fun p hp => q p _ hp (.new hp) upd_same⟩
theorem v_split_s {a b : Str} (hb : (b.length == 0) = false) (hl : a.length + 2 ≤ sizeLine) (q : ∀ p H', H p = none → Chg [] H H' → H' p = some (.lst ((Txt.split a b).map V.str)) → Q (.ref p) H') : uSplit (.str a) [.str b] H Q :=
  ⟨a, b, rfl, rfl, hb, hl, fun p hp => q p _ hp (.new hp) upd_same⟩
theorem v_upper_s {a : Str} (hl : a.length ≤ 5592405) (q : Q (.str (Txt.upper a)) H) : uUpper (.str a) [] H Q := ⟨a, rfl, rfl, hl, q⟩
theorem v_slS {z : Str} {lo hi : Option Int} (hl : z.length ≤ sizeLine) (q : Q (.str (cutS z lo hi)) H) : uSlS K (.str z) lo hi H Q := .inr ⟨z, rfl, hl, q⟩
theorem v_intS {z : Str} {n : Int} (h : PySem.intText? z = some n) (hl : z.length ≤ 640) (q : Q (.int n) H) : uIntS [.str z] H Q := ⟨z, n, rfl, h, hl, q⟩
/-- one sign in a text -/
theorem v_in_sg {c : Nat} {z : Str} (q : Q (.bl (decide (c ∈ z.cps.toList))) H) : uIn K false (.str ⟨#[c]⟩) (.str z) H Q :=
  .inr ⟨⟨#[c]⟩, z, rfl, rfl, by
    show Q (.bl (!(Builtin.Str.occurrences z ⟨#[c]⟩ 0 z.length 1).isEmpty)) H
    rw [PySem.StrLaws.found_one z c]; exact q⟩
theorem v_nin_sg {c : Nat} {z : Str} (q : Q (.bl (!decide (c ∈ z.cps.toList))) H) : uIn K true (.str ⟨#[c]⟩) (.str z) H Q :=
  .inr ⟨⟨#[c]⟩, z, rfl, rfl, by
    show Q (.bl (!(!(Builtin.Str.occurrences z ⟨#[c]⟩ 0 z.length 1).isEmpty))) H
    rw [PySem.StrLaws.found_one z c]; exact q⟩
end
theorem mt_uindex {X : Cx} {K : PySem.W.Frag} (hK : X.K = K := by rfl) : MtR X "list.index" (rIndex K) := by
  subst hK
  exact mt_index
theorem v_index {H : Hp} {K : PySem.W.Frag} {Q : VK} {a : Addr} {ys : List V} {y z : V} (j : Nat) (h : SqL K H a ys) (fy : flatV y = true) (fys : ys.all flatV = true) (hz : ys[j]? = some z) (he : eqV z y = true) (hno : ∀ (m : Nat) (z' : V), m < j → ys[m]? = some z' → eqV z' y = false)
    (q : Q (.int (j : Nat)) H) : rIndex K (.ref a) [y] H Q := ⟨a, ys, y, j, z, rfl, rfl, h, fy, fys, hz, he, hno, q⟩
theorem blkOk_in {N N' : List Str} {sc sc' scope : Scope} {own : List (Str × Nat)} (hN : N' = N) (hs : sc' = sc) (h : blkC N sc scope own = true) : BlkOk N' sc' scope own := by
  subst hN hs
  exact blkOk_by h
theorem cutS_len (z : Str) (lo hi : Option Int) : (cutS z lo hi).length ≤ z.length := by
  unfold cutS
  simp only [Str.length, Array.size_extract, List.size_toArray, List.length_take, List.length_drop, Array.length_toList]
  omega
end RT
/-! ## 25. a for over a tuple while an error is held -/
namespace RT
open PySem PySem.Spec PyProof.Rows L2 L2H HotX
section
variable {prog : Program} {w : World} {A : Around} {E : Value → Shared → Prop} {s : Shared}
theorem pyNext_tuple_end_hot {it t x1 : Addr} {i : Nat} {items : Array Value} {Q : Option Value → Shared → Prop} (hot : HotAt A x1 s.heap) (hne : x1 ≠ it)
    (hit : s.heap.IsTupleIter it t i) (ht : s.heap.IsTuple t items) (hx : items[i]? = none)
    (hQ : ∀ h', (∀ b o, b ≠ it → s.heap.get? b = some o → h'.get? b = some o) → Q none { s with heap := h' }) : wpAny (model prog w) A (pyNext (.ref it)) Q E s := by
  obtain ⟨o, ho, hc, hd⟩ := id hit
  obtain ⟨ol, hol, _, nl, hdl⟩ := ht
  obtain ⟨hh, o1, vs1, h1, d1, c1⟩ := hot
  unfold pyNext
  refine wpAny_bind (wpAny_attempt (wpAny_callSpecial?_slot (name := Str.ofString "__next__") hit.typeIs PySem.F.slot_tuple_iterator_next
    (wpAny_call_entry PySem.F.slot_tuple_iterator_next hit.typeIs PySem.F.entry_tuple_iterator_next ?_ (PySem.F.args_tuple_iterator_next_1 _))))
  show wpAny _ _ (field (.ref it) 0 >>= _) _ _ s
  refine wpAny_bind (wpAny_field ho hd (x := .ref t) rfl ?_)
  show wpAny _ _ (if (Value.ref t == Value.none) = true then _ else _) _ _ s
  rw [if_neg (show ¬ ((Value.ref t == Value.none) = true) from Bool.false_ne_true)]
  show wpAny _ _ (field (.ref it) 1 >>= _) _ _ s
  refine wpAny_bind (wpAny_field ho hd (x := .int i 0) rfl ?_)
  show wpAny _ _ (seqItems? (.ref t) >>= _) _ _ s
  refine wpAny_bind (wpAny_seqItems hol hdl ?_)
  simp only [Int.toNat_natCast, hx]
  refine wpAny_bind (wpAny_rule (wpAny_bind (wpAny_setField ho hd (by simp) ?_)))
  show wpAny _ _ (newExc (.type "StopIteration") [] >>= _) _ _ _
  refine wpAny_bind ?_
  simp only [newExc, newTuple]
  refine wpAny_bind (wpAny_newObj_type ?_ (by size_fits))
  refine wpAny_bind (m := firstArgMember _ _) (wpAny_of_eq (a := Value.none) (by first | rfl | (simp only [firstArgMember]; rfl)) ?_)
  refine wpAny_newObj_type ?_ (by size_fits)
  have h1' : (s.heap.update it (Obj.mapFields (·.setIfInBounds 0 Value.none))).get? x1 = some o1 := (Heap.get?_update_other _ _ (Ne.symm hne)).trans h1
  refine raiseNew_hot ⟨hh, o1, vs1, Heap.get?_push_of_some _ (Heap.get?_push_of_some _ h1'), d1, c1⟩ (Nat.ne_of_lt (Heap.lt_size (Heap.get?_push_of_some _ h1'))) (Heap.get?_push_size _ rfl) rfl (by first | (simp; done) | (simp; omega) | (simp only [Array.size_append]; simp; omega)) ?_
  refine wpAny_bind (wpAny_isInstance (T := "StopIteration") (b := true) ⟨_, Heap.get?_update_self _ (Heap.get?_push_size _ rfl) rfl, rfl⟩ isSubtype_stop ?_)
  refine wpAny_pure (hQ _ fun b o' hb e => ?_)
  have e' : (s.heap.update it (Obj.mapFields (·.setIfInBounds 0 Value.none))).get? b = some o' := (Heap.get?_update_other _ _ (Ne.symm hb)).trans e
  rw [Heap.get?_update_other _ _ (Nat.ne_of_gt (Heap.lt_size (Heap.get?_push_of_some _ e')))]
  exact Heap.get?_push_of_some _ (Heap.get?_push_of_some _ e')
end
/-- turns over a tuple -/
theorem turn_tupleH {P : Program} {w : World} {K : PySem.W.Frag} {tg : Expr} (a it : Addr) : TurnH P w K tg (Itt K a) [it] it (fun i h => h.IsTupleIter it a i) where
  mem := by simp
  obj := fun i h st b hb => by
    have e : b = it := by simpa using hb
    subst e
    obtain ⟨o, e, c, d⟩ := st
    exact ⟨o, e, fun v z => by rw [d] at z; cases z⟩
  keep := fun i h h' st k => st.at fun o e => k it (by simp) o e
  item := by
    intro X hP hw hK hc i pins s σ H E I hf st hg
    subst hP hw hK
    obtain ⟨xs, x, hq, hx⟩ := hg
    obtain ⟨its, rv, p, hz⟩ := I.tuple hq
    obtain ⟨u, hu, ru⟩ := rv.get hx
    obtain ⟨f0, f1, f2, f3, f4, f5⟩ := hf it (by simp)
    refine wpAny_pyNext_tuple_item st (show s.heap.IsTuple a its.toArray from p) (x := u) (by simpa using hu) fun h' st' sb => ?_
    have I1 : Inv X pins σ H { s with heap := h' } := I.turned (t' := s.toks) (fun b o hb e => (sb.2 b hb).trans e) f0 f1 f3 f4 f5
    obtain ⟨o, e, c, d⟩ := id st'
    exact ⟨u, rfl, go_of (s := { s with heap := h' }) e c d (by decide) ⟨x, H, I1, ru, ⟨rfl, fun ys hy => by rw [I.tuple_inj hy hq]; exact hx⟩, st', fun b hb => (hf b hb).1⟩⟩
  done := by
    intro X hP hw hK hc i pins s σ H E I hf st hg
    subst hP hw hK
    obtain ⟨xs, hq, hx⟩ := hg
    obtain ⟨its, rv, p, hz⟩ := I.tuple hq
    obtain ⟨f0, f1, f2, f3, f4, f5⟩ := hf it (by simp)
    have hl := rv.length
    obtain ⟨q, ⟨hh, vs, hd, h2⟩, hm⟩ := hc
    have hp := (I.pin q (List.mem_append_left _ hm)).1
    exact pyNext_tuple_end_hot (x1 := q.1) ⟨hh, q.2, vs, hp, hd, h2⟩ (f5 q (List.mem_append_left _ hm)) st (show s.heap.IsTuple a its.toArray from p) (by simp; omega) fun h' eb => ⟨rfl, I.turned (t' := s.toks) (fun b o hb e => eb b o hb e) f0 f1 f3 f4 f5⟩
  self := fun _ _ _ _ _ st h => wpAny_pyIter_tupleiter st h
def iTupH (K : PySem.W.Frag) (tl : TE) : TI := fun σ H R => tl σ H fun x H1 => ∃ a, x = .ref a ∧ (∃ xs, SqT K H1 a xs) ∧ R (Itt K a) H1
theorem pi_tupH {X : Cx} {K : PySem.W.Frag} {tg l : Expr} {tl : TE} (hl : PE X l tl) (hK : X.K = K := by rfl) : PIH X tg l (iTupH K tl) := by
  subst hK
  refine ⟨fun pins s σ H R I h => ?_⟩
  refine thn (hl.run pins s σ H _ I h) fun v s1 hh => ?_
  obtain ⟨x, H1, I1, r1, a, rfl, ⟨xs, hq⟩, q⟩ := hh
  cases r1
  obtain ⟨its, rv, p, hz⟩ := I1.tuple hq
  refine wpAny_pyIter_tuple (show s1.heap.IsTuple a its.toArray from p) ?_
  refine ⟨s1.heap.objs.size, [s1.heap.objs.size], _, _, H1, rfl, I1.kept (t' := s1.toks) fun b o e => Heap.get?_push_of_some _ e, turn_tupleH a _, ⟨_, Heap.get?_push_size _ rfl, rfl, rfl⟩, fun b hb => ?_, q⟩
  have e : b = s1.heap.objs.size := by simpa using hb
  subst e
  exact I1.fpOk (Nat.le_refl _) (I1.hok.fresh (Nat.le_refl _))
def ItH (K : PySem.W.Frag) (x : V) (H1 : Hp) (R : It → Hp → Prop) : Prop := ∃ a, x = .ref a ∧ (∃ xs, SqT K H1 a xs) ∧ R (Itt K a) H1
theorem v_itH {K : PySem.W.Frag} {te : TE} {σ : L2.St} {H : Hp} {R : It → Hp → Prop} (h : te σ H fun x H1 => ItH K x H1 R) : iTupH K te σ H R := h
theorem v_itH_t {K : PySem.W.Frag} {H : Hp} {R : It → Hp → Prop} {a : Addr} {xs : List V} (hl : SqT K H a xs) (h : R (Itt K a) H) : ItH K (.ref a) H R := ⟨a, rfl, ⟨xs, hl⟩, h⟩
end RT

/-! ## 24. tuples whose object is known; dict of a tuple of pairs; sorted of a dict's items -/
namespace RT
open PySem PySem.Spec PyProof.Rows L2
/-- a tuple whose object has no dict -/
def FzT (H : Hp) (a : Addr) (xs : List V) : Prop := ∃ o : Obj, H a = some (.frz o (.tup xs)) ∧ o.dict = none
theorem FzT.sq {K : PySem.W.Frag} {H : Hp} {a : Addr} {xs : List V} (h : FzT H a xs) : SqT K H a xs := by
  obtain ⟨o, e, _⟩ := h
  exact .inl (.inr ⟨o, e⟩)
theorem FzT.on {S : List Addr} {H H' : Hp} {a : Addr} {xs : List V} (h : FzT H a xs) (c : Chg S H H') (n : a ∉ S) : FzT H' a xs := by
  obtain ⟨o, e, d⟩ := h
  exact ⟨o, c.keep e n, d⟩
theorem FzT.at {H H' : Hp} {a : Addr} {xs : List V} (h : FzT H a xs) (c : Chg [] H H') : FzT H' a xs := h.on c (by simp)
def uTupleF (K : PySem.W.Frag) : List V → Hp → VK → Prop := fun xs H Q => ∃ p ys, xs = [.ref p] ∧ SqL K H p ys ∧ ∀ l o, H l = none → o.dict = none → Q (.ref l) (upd H l (.frz o (.tup ys)))
theorem call_utupleF {X : Cx} {K : PySem.W.Frag} (hK : X.K = K := by rfl) : CallR X (.type "tuple") (uTupleF K) := by
  subst hK
  intro pins s σ H xs us Q I r h
  obtain ⟨p, ys, rfl, hq, q⟩ := h
  obtain ⟨u, rfl, rx⟩ := vals1 r
  cases rx
  obtain ⟨its, r', pl, hz⟩ := I.list hq
  have hlen := r'.length
  refine call_tuple_list pl.isList (fun h' kp => ?_) (by simp only [List.size_toArray] <;> omega)
  have I1 : Inv X pins σ H { s with heap := h' } := I.kept (t' := s.toks) kp
  have I2 : Inv X pins σ (upd H h'.objs.size (.frz { cls := .type "tuple", data := .seq its.toArray } (.tup ys))) { s with heap := h'.push { cls := .type "tuple", data := .seq its.toArray } } :=
    I1.laid (t' := s.toks) (fun b o e => Heap.get?_push_of_some _ e) (Nat.le_refl _) (show ObjOk X.prog X.w _ _ _ (.frz _ (.tup ys)) from ⟨Heap.get?_push_size _ rfl, hz, its, r', IsTup.new _ _⟩)
  exact ⟨.ref h'.objs.size, _, I2, rfl, q _ _ (I1.hok.fresh (Nat.le_refl _)) rfl⟩
/-- () as such a tuple -/
def NewF (xs : List V) (H : Hp) (Q : VK) : Prop := xs.length ≤ sizeLine ∧ ∀ p o, H p = none → o.dict = none → Q (.ref p) (upd H p (.frz o (.tup xs)))
def tTupF (t : TA) : TE := fun σ H Q => t σ H fun xs H1 => NewF xs H1 Q
theorem pe_tupF {X : Cx} {es : List Expr} {t : TA} {pos : Pos} {x1} (h : PA X es t) : PE X (.Tuple es x1 pos) (tTupF t) := by
  refine ⟨fun pins s σ H Q I hq => ?_⟩
  refine wpAny_Tuple_spliced (thn (h.run pos pins s σ H _ I hq) fun us s1 ⟨xs, H1, I1, r, z, q⟩ => ⟨by rw [← r.length]; exact z, ?_⟩)
  have hf : H1 s1.heap.objs.size = none := I1.hok.fresh (Nat.le_refl _)
  refine ⟨.ref s1.heap.objs.size, upd H1 s1.heap.objs.size (.frz { cls := .type "tuple", data := .seq us.toArray } (.tup xs)), I1.laid (t' := s1.toks) (fun b u e => Heap.get?_push_of_some _ e) (Nat.le_refl _) ?_, rfl, q _ _ hf rfl⟩
  exact ⟨Heap.get?_push_size _ rfl, z, us, r, ⟨_, Heap.get?_push_size _ rfl, rfl, _, rfl⟩⟩
section
variable {H : Hp} {Q : VK} {K : PySem.W.Frag} {σ : L2.St}
theorem v_tupF {ta : TA} (h : ta σ H fun xs H1 => NewF xs H1 Q) : tTupF ta σ H Q := h
theorem v_newF {xs : List V} (hl : xs.length ≤ sizeLine) (h : ∀ p H', H p = none → Chg [] H H' → FzT H' p xs → Q (.ref p) H') : NewF xs H Q :=
  ⟨hl, fun p o hp ho => h p _ hp (.new hp) ⟨o, upd_same, ho⟩⟩
theorem v_tupleF {a : Addr} {xs : List V} (e : SqL K H a xs) (q : ∀ p H', H p = none → Chg [] H H' → FzT H' p xs → Q (.ref p) H') : uTupleF K [.ref a] H Q :=
  ⟨a, xs, rfl, e, fun p o hp ho => q p _ hp (.new hp) ⟨o, upd_same, ho⟩⟩
end
/-! dict(t) -/
def uDictT (K : PySem.W.Frag) : List V → Hp → VK → Prop := fun xs H Q => ∃ (a : Addr) (ps : List Addr) (kvs : List (Key × V)), xs = [.ref a] ∧ FzT H a (ps.map V.ref) ∧ Paired (fun p kv => SqT K H p [kV kv.1, kv.2]) ps kvs ∧
  ∀ p, H p = none → Q (.ref p) (upd H p (.dK (mergeK [] kvs)))
theorem call_udictT {X : Cx} {K : PySem.W.Frag} (hcalm : X.calm = true) (hK : X.K = K := by rfl) : CallR X (.type "dict") (uDictT K) := by
  subst hK
  intro pins s σ H xs us Q I r q
  obtain ⟨a, ps, kvs, ex, ⟨o, ha, hdn⟩, hp, q⟩ := q
  subst ex
  obtain ⟨u, eu, rx⟩ := vals1 r
  subst eu
  cases rx
  obtain ⟨ho, hz, its, rv, o', ho', hc, n, hdat⟩ := (show ObjOk X.prog X.w H s.heap a (.frz o (.tup (ps.map V.ref))) from I.hok a _ ha)
  obtain rfl : o' = o := by rw [ho] at ho'; cases ho'; rfl
  have ei := refs_at rv
  subst ei
  rw [List.length_map] at hz
  obtain ⟨prs, rel, hl, hpr⟩ := pairs_of I hp
  let vps : List (Value × Value) := (List.range prs.length).map fun j => match prs[j]? with
    | some q => ((match ps[j]? with | some b => (match s.heap.get? b with | some ob => (match ob.data with | .seq ys _ => ys[0]?.getD .none | _ => .none) | none => .none) | none => .none), q.2)
    | none => (.none, .none)
  have hv : ∀ (j : Nat) (q : Key × Value), prs[j]? = some q → ∃ (b : Addr) (u : Value), ps[j]? = some b ∧ IsTup s.heap b #[u, q.2] ∧ keyIs q.1 u = true ∧ vps[j]? = some (u, q.2) := by
    intro j q e
    obtain ⟨b, u, e1, e2, e3⟩ := hpr j q e
    refine ⟨b, u, e1, e2, e3, ?_⟩
    have hj : j < prs.length := (List.getElem?_eq_some_iff.mp e).1
    show ((List.range prs.length).map _)[j]? = _
    rw [List.getElem?_map, List.getElem?_range hj]
    obtain ⟨ob, h1, h2, m, h3⟩ := e2
    simp only [Option.map_some, e, e1, h1, h3]
    rfl
  have hvl : vps.length = prs.length := by show ((List.range prs.length).map _).length = _; rw [List.length_map, List.length_range]
  let Ts : Nat → Addr := fun j => ps[j]?.getD 0
  refine PySem.call_dict_pairs (knd := mixKind X.prog X.w) (kvs := prs) (PairArg.tuple a (ps.map Value.ref).toArray Ts vps) (I.ok.hd hcalm) ⟨⟨o', n, ho, hc, hdn, hdat⟩, ?_, fun j k v hj => ?_⟩ ⟨hvl.symm, fun i key v hi => ?_⟩ (by rw [hvl, hl]; exact hz) fun h' tk hd' k => ?_
  · simp [hvl, hl]
  · have hj2 : j < prs.length := by rw [← hvl]; exact (List.getElem?_eq_some_iff.mp hj).1
    obtain ⟨q, hq⟩ : ∃ q, prs[j]? = some q := ⟨_, List.getElem?_eq_getElem hj2⟩
    obtain ⟨b, u, e1, e2, e3, e4⟩ := hv j q hq
    rw [e4] at hj
    cases hj
    have : Ts j = b := by show ps[j]?.getD 0 = b; rw [e1]; rfl
    refine ⟨by rw [this]; simp [e1], ?_⟩
    rw [this]
    exact .inl e2
  · have hj2 : i < prs.length := by rw [← hvl]; exact (List.getElem?_eq_some_iff.mp hi).1
    obtain ⟨q, hq⟩ : ∃ q, prs[i]? = some q := ⟨_, List.getElem?_eq_getElem hj2⟩
    obtain ⟨b, u, e1, e2, e3, e4⟩ := hv i q hq
    have hi' : vps[i]? = some (key, v) := hi
    rw [e4] at hi'
    cases hi'
    exact ⟨q.1, hq, e3⟩
  · have hm : (s.heap.objs.size == sysModules) = false := beq_eq_false_iff_ne.mpr (Nat.ne_of_gt I.big)
    have hlen : (mergeK [] kvs).length ≤ sizeLine := by
      refine Nat.le_trans (length_mergeK kvs []) ?_
      rw [List.length_nil, Nat.zero_add, rel.length, hl]
      exact hz
    exact ⟨.ref s.heap.objs.size, upd H s.heap.objs.size (.dK (mergeK [] kvs)), I.laid (t' := tk) (fun b o e => k b o (by simp) e) (Nat.le_refl _) (show ObjOk X.prog X.w _ _ _ (.dK (mergeK [] kvs)) from ⟨hlen, hm, merged [] prs, KV.merge rel .nil, hd'⟩), rfl, q _ (I.hok.fresh (Nat.le_refl _))⟩
end RT

/-! ## 26. sorted of the items of a dict with texts as its keys -/
namespace RT
open PySem PySem.Spec PyProof.Rows L2 L2.DX
def rItemsK : V → List V → Hp → VK → Prop := fun x xs H Q => ∃ (a : Addr) (kvs : List (Key × V)), x = .ref a ∧ xs = [] ∧ H a = some (.dK kvs) ∧ ∀ p, H p = none → Q (.ref p) (upd H p (itemsO p a))
theorem mt_itemsK {X : Cx} : MtR X "dict.items" rItemsK := by
  intro pins s σ H x xs v us Q I rx rxs h
  obtain ⟨a, kvs, rfl, rfl, ha, q⟩ := h
  cases rx
  cases rxs
  obtain ⟨hz, hs0, vs, kv, o, es, ep, ho, hx, hdat, hk, hp, hn⟩ := I.hok a _ ha
  refine DT.callItems (es := es) (ep := ep) hs0 ⟨o, ho, hx, hdat⟩ ?_
  have hf : H s.heap.objs.size = none := I.hok.fresh (Nat.le_refl _)
  exact ⟨.ref s.heap.objs.size, upd H s.heap.objs.size (itemsO s.heap.objs.size a), I.laid (t' := s.toks) (fun b u e => Heap.get?_push_of_some _ e) (Nat.le_refl _) (itemsO_ok (Heap.get?_push_size _ rfl)), rfl, q _ hf⟩
def rSortIK : List V → Hp → VK → Prop := fun vs H Q => ∃ (p a : Addr) (kvs : List (Key × V)), vs = [.ref p] ∧ H p = some (itemsO p a) ∧ H a = some (.dK kvs) ∧ (∀ q ∈ kvs, ∃ z t, q = (.inr z, .ref t)) ∧
  ∀ (H' : Hp) (l : Addr) (kvs' : List (Key × V)) (ts : List Addr), Chg [] H H' → H l = none → kvs'.Perm kvs → (kvs'.map (·.1)).Pairwise (fun x y => keyLt x y = true) → H' l = some (.lst (ts.map V.ref)) →
    Paired (fun t q => H' t = some (.tup [kV q.1, q.2])) ts kvs' → Q (.ref l) H'
theorem sortableC {h0 : Heap} {its : List Value} {k : V → List V} {lt : V → V → Bool} (hT : ∀ v ∈ its, TupAt h0 v (k (bkV v))) (hf : ∀ v ∈ its, ∃ z r, k (bkV v) = .str z :: r)
    (hlt : ∀ v ∈ its, ∀ u ∈ its, LexV (k (bkV v)) (k (bkV u)) = some (lt (bkV v) (bkV u))) {prog : Program} {w : World} {A : Around} {s1 : Shared} {a' : Addr} (hn : its.length ≥ 2)
    (kk : ∀ b o, h0.get? b = some o → b ≠ a' ∧ s1.heap.get? b = some o) : SrtO.SortableO prog w A s1 a' its (fun v u => lt (bkV v) (bkV u)) := by
  intro h' keep
  have keep2 : ∀ b o, h0.get? b = some o → o.cls = .type "tuple" → h'.get? b = some o := fun b o e _ => keep b o (kk b o e).1 (kk b o e).2
  have hT' : ∀ v ∈ its, TupAt h' v (k (bkV v)) := fun v hv => (hT v hv).keeps keep2
  have hc : SrtO.Cmp prog w A { s1 with heap := h' } (tuples' true) (fun p => p.1 ∈ its) (SrtO.lt2 fun v u : Value => lt (bkV v) (bkV u)) := by
    intro p q hp hq
    obtain ⟨t, ts, et, rt, o, ho, hc, n, hd⟩ := hT' _ hp
    obtain ⟨t2, ts2, et2, rt2, o2, ho2, hc2, n2, hd2⟩ := hT' _ hq
    have hl := hlt _ hp _ hq
    show wpAny _ _ (keyLt' (tuples' true) p.1 q.1) (fun r s' => s' = _ ∧ r = lt (bkV p.1) (bkV q.1)) (fun _ _ => False) _
    generalize lt (bkV p.1) (bkV q.1) = b at hl
    rw [et, et2]
    refine PySem.W.kat_lt ho hd ho2 hd2 ?_
    exact lexV_at 0 rt rt2 hl (by simp) ⟨rfl, rfl⟩
  refine ⟨tuples' true, fun Q' E' hq => ?_, hc⟩
  obtain ⟨fs, g1, g2, g3⟩ := firstsC (f := fun z => ∃ y, z = .str y) (k := fun v => k (bkV v)) fun v hv => ⟨hT' v hv, by
    obtain ⟨z, r, e⟩ := hf _ hv
    exact ⟨_, _, ⟨z, rfl⟩, e⟩⟩
  refine PySem.W.kat_kind (T := .type "str") g1 (by omega) (fun f hm => ?_) (by rfl) ?_
  · obtain ⟨z, ⟨y, rfl⟩, t, rfl⟩ := g3 f hm
    exact PySem.W.Looks.now
  · have e : (Value.type "str" != Value.type "tuple") = true := by first | decide +kernel | rfl | decide
    rw [e]
    exact hq
def lookA (L : List (Addr × Key × V)) (a : Addr) : Key × V := ((L.find? fun z => decide (z.1 = a)).map (·.2)).getD (.inl 0, .non)
def lookV (L : List (Addr × Key × V)) (x : V) : Key × V := match x with
  | .ref a => lookA L a
  | _ => (.inl 0, .non)
theorem lookA_at : ∀ {as : List Addr} {kvs : List (Key × V)} {j : Nat} {a : Addr} {q : Key × V}, as.Nodup → as[j]? = some a → kvs[j]? = some q → lookA (as.zip kvs) a = q
  | [], _, j, _, _, _, h, _ => by simp at h
  | _ :: _, [], j, _, _, _, _, h => by simp at h
  | b :: as, p :: kvs, j, a, q, hn, h1, h2 => by
    rw [List.nodup_cons] at hn
    cases j with
    | zero =>
      simp at h1 h2
      subst h1 h2
      simp [lookA]
    | succ j =>
      simp at h1 h2
      have ne : ¬ b = a := fun e => hn.1 (e ▸ List.mem_of_getElem? h1)
      have := lookA_at hn.2 h1 h2
      unfold lookA at this ⊢
      rw [List.zip_cons_cons, List.find?_cons_of_neg (by simpa using ne)]
      exact this
theorem map_lookA {as : List Addr} {kvs : List (Key × V)} (hn : as.Nodup) (hl : as.length = kvs.length) : as.map (lookA (as.zip kvs)) = kvs := by
  apply List.ext_getElem?
  intro j
  rw [List.getElem?_map]
  cases h : as[j]? with
  | none =>
    rw [List.getElem?_eq_none_iff] at h
    rw [List.getElem?_eq_none (by omega)]
    rfl
  | some a =>
    have : j < kvs.length := by have := (List.getElem?_eq_some_iff.mp h).1; omega
    have e : kvs[j]? = some kvs[j] := List.getElem?_eq_getElem this
    rw [e]
    exact congrArg some (lookA_at hn h e)
theorem perm_refs {as : List Addr} : ∀ {out : List Value}, out.Perm (as.map Value.ref) → ∃ bs : List Addr, bs.Perm as ∧ out = bs.map Value.ref := by
  intro out h
  let f : Value → Addr := fun v => match v with | .ref a => a | _ => 0
  have e1 : (as.map Value.ref).map f = as := by rw [List.map_map]; exact List.map_id _
  refine ⟨out.map f, e1 ▸ h.map f, ?_⟩
  rw [List.map_map]
  symm
  have : ∀ v ∈ out, (Value.ref ∘ f) v = v := fun v hv => by
    obtain ⟨a, _, rfl⟩ := List.mem_map.mp (h.mem_iff.mp hv)
    rfl
  rw [List.map_congr_left this, List.map_id']
theorem paired_map {α β : Type} {F : α → β → Prop} {f : α → β} : ∀ {xs : List α}, (∀ x ∈ xs, F x (f x)) → Paired F xs (xs.map f)
  | [], _ => .nil
  | x :: xs, h => .cons (h x List.mem_cons_self) (paired_map fun y hy => h y (List.mem_cons_of_mem _ hy))
theorem pairs_get {prog : Program} {w : World} {es : List DictEntry} {vs : List (Key × Value)} (hp : PySem.Pairs (mixKind prog w) es vs) : ∀ {j : Nat} {e : DictEntry}, es[j]? = some e → ∃ kv, vs[j]? = some kv ∧ keyIs kv.1 e.key = true ∧ e.val = kv.2 := by
  induction hp with
  | nil => intro j e h; simp at h
  | cons h1 h2 t ih =>
    intro j e he
    cases j with
    | zero => simp at he; subst he; exact ⟨_, by simp, h1, h2⟩
    | succ j => simp at he; simpa using ih he
theorem pairs_len {prog : Program} {w : World} {es : List DictEntry} {vs : List (Key × Value)} (hp : PySem.Pairs (mixKind prog w) es vs) : es.length = vs.length := by
  induction hp with
  | nil => rfl
  | cons _ _ _ ih => rw [List.length_cons, List.length_cons, ih]
theorem kv_keys {kvs : List (Key × V)} {vs : List (Key × Value)} (kv : KV kvs vs) : kvs.map (·.1) = vs.map (·.1) := by
  induction kv with
  | nil => rfl
  | cons h _ ih => rw [List.map_cons, List.map_cons, ih, h.1]
theorem cr_sortedItemsK {X : Cx} (hc : X.calm = true) : CallR X (.builtin "sorted") rSortIK := by
  intro pins s σ H xs us Q I r h
  obtain ⟨p, a, kvs, rfl, hp, ha, hkv, q⟩ := h
  obtain rfl := Vals.ref1 r
  have view : s.heap.IsItemsView p a := (show ObjOk X.prog X.w H s.heap p (itemsO p a) from I.hok p _ hp).1
  obtain ⟨hz, hs0, vs, kv, o, es, ep, ho, hx, hdat, hko, hpr, hnd⟩ := I.hok a _ ha
  have l1 : es.size = kvs.length := by
    have := pairs_len hpr
    rw [Array.length_toList] at this
    rw [this, kv.length]
  have hh : X.A.handled = none := I.ok.hd hc
  refine DT.sortedI (es := es) (ep := ep) hh view ⟨o, ho, hx, hdat⟩ (by omega) fun h' tk as hk hlt hl hG => ?_
  have lak : as.length = kvs.length := by omega
  have nd : as.Nodup := List.Pairwise.imp (fun h => Nat.ne_of_lt h) hG.rise
  have L := @map_lookA as kvs nd lak
  -- the pairs that were made
  have pr : ∀ b ∈ as, ∃ (z : Str) (t : Tok) (v : Addr), lookA (as.zip kvs) b = (.inr z, .ref v) ∧ h'.get? b = some { cls := .type "tuple", data := .seq #[Value.str z t, Value.ref v] } ∧ lookA (as.zip kvs) b ∈ kvs := by
    intro b hb
    obtain ⟨j, hj⟩ := List.mem_iff_getElem?.mp hb
    obtain ⟨en, he, hg⟩ := hG.pairs j b hj
    obtain ⟨kw, hkw, hki, hve⟩ := pairs_get hpr (by rw [Array.getElem?_toList]; exact he)
    have hjl : j < kvs.length := by have := (List.getElem?_eq_some_iff.mp hj).1; omega
    have ekv : kvs[j]? = some kvs[j] := List.getElem?_eq_getElem hjl
    obtain ⟨kw', hkw', ek, rv⟩ := LiI.paired_get kv ekv
    rw [hkw] at hkw'
    cases hkw'
    obtain ⟨z, t, eq⟩ := hkv _ (List.getElem_mem hjl)
    rw [eq] at ek rv
    have ek' : kw.1 = .inr z := ek.symm
    have rv' : kw.2 = Value.ref t := rv
    rw [ek'] at hki
    obtain ⟨i, t', c, _⟩ | ⟨z', t', c, ez⟩ := keyIs_shape hki
    · cases c
    · cases c
      have lk := lookA_at nd hj ekv
      rw [eq] at lk
      refine ⟨z, t', t, lk, ?_, ?_⟩
      · rw [hg, ez, hve, rv']
      · rw [lk, ← eq]; exact List.getElem_mem hjl
  have hob : (h'.push { cls := .type "list", data := .seq (as.map Value.ref).toArray }).get? h'.objs.size = some (seqObj "list" (as.map Value.ref).toArray 0) := Heap.get?_push_size _ rfl
  have kb : ∀ b o, s.heap.get? b = some o → (h'.push { cls := .type "list", data := .seq (as.map Value.ref).toArray }).get? b = some o := fun b o e => Heap.get?_push_of_some _ (hk b o e)
  have ne0 : ∀ b o, h'.get? b = some o → b ≠ h'.objs.size := fun b o e => Nat.ne_of_lt (Heap.lt_size e)
  generalize hh2 : h'.push { cls := .type "list", data := .seq (as.map Value.ref).toArray } = h2 at hob kb ⊢
  have ka : ∀ b o, h'.get? b = some o → h2.get? b = some o := fun b o e => by rw [← hh2]; exact Heap.get?_push_of_some _ e
  have hT : ∀ v ∈ as.map Value.ref, TupAt h' v [kV (lookV (as.zip kvs) (bkV v)).1, (lookV (as.zip kvs) (bkV v)).2] := by
    intro v hv
    obtain ⟨b, hb, rfl⟩ := List.mem_map.mp hv
    obtain ⟨z, t, x, e1, e2, _⟩ := pr b hb
    show TupAt h' (.ref b) [kV (lookA (as.zip kvs) b).1, (lookA (as.zip kvs) b).2]
    rw [e1]
    exact ⟨b, [Value.str z t, Value.ref x], rfl, .cons ⟨t, rfl⟩ (.cons rfl .nil), ⟨_, e2, rfl, 0, rfl⟩⟩
  have hlt' : ∀ v ∈ as.map Value.ref, ∀ u ∈ as.map Value.ref, LexV [kV (lookV (as.zip kvs) (bkV v)).1, (lookV (as.zip kvs) (bkV v)).2] [kV (lookV (as.zip kvs) (bkV u)).1, (lookV (as.zip kvs) (bkV u)).2] = some (lexK [(lookV (as.zip kvs) (bkV v)).1] [(lookV (as.zip kvs) (bkV u)).1]) := by
    intro v hv u hu
    obtain ⟨b, hb, rfl⟩ := List.mem_map.mp hv
    obtain ⟨c, hc', rfl⟩ := List.mem_map.mp hu
    obtain ⟨z, t, x, e1, _, m1⟩ := pr b hb
    obtain ⟨z2, t2, x2, e2, _, m2⟩ := pr c hc'
    show LexV [kV (lookA (as.zip kvs) b).1, (lookA (as.zip kvs) b).2] [kV (lookA (as.zip kvs) c).1, (lookA (as.zip kvs) c).2] = some (lexK [(lookA (as.zip kvs) b).1] [(lookA (as.zip kvs) c).1])
    have hndk : (kvs.map (·.1)).Nodup := by rw [kv_keys kv]; exact hnd
    by_cases ez : z = z2
    · subst ez
      have : lookA (as.zip kvs) b = lookA (as.zip kvs) c := by
        have a1 := valV_mem hndk m1
        have a2 := valV_mem hndk m2
        rw [e1] at a1
        rw [e2] at a2
        rw [e1, e2]
        rw [a1] at a2
        have : V.ref x = V.ref x2 := Option.some.inj a2
        rw [this]
      rw [this, e2]
      simp [LexV, lexK, kV]
    · rw [e1, e2]
      have : (Sum.inr z : Key) ≠ Sum.inr z2 := fun e => ez (Sum.inr.inj e)
      simp [LexV, lexK, kV, keyLt, ez]
  refine wpAny_call_entry PyProof.Rows.slot_list_sort ⟨_, hob, rfl⟩ PyProof.Rows.entry_list_sort
    (SrtO.list_sort_ord (s := { s with heap := h2, toks := tk }) (ltv := fun v u => lexK [(lookV (as.zip kvs) (bkV v)).1] [(lookV (as.zip kvs) (bkV u)).1]) (swo_bk (lt := fun v u => lexK [(lookV (as.zip kvs) v).1] [(lookV (as.zip kvs) u).1]) (swo_lexK fun v => [(lookV (as.zip kvs) v).1])) hob (by rw [List.length_map]; omega)
      (fun hn => sortableC (h0 := h') (k := fun v => [kV (lookV (as.zip kvs) v).1, (lookV (as.zip kvs) v).2]) (lt := fun v u => lexK [(lookV (as.zip kvs) v).1] [(lookV (as.zip kvs) u).1]) hT (fun v hv => by
        obtain ⟨b, hb, rfl⟩ := List.mem_map.mp hv
        obtain ⟨z, t, x, e1, _⟩ := pr b hb
        exact ⟨z, [.ref x], by show [kV (lookA (as.zip kvs) b).1, (lookA (as.zip kvs) b).2] = _; rw [e1]; rfl⟩) hlt' hn fun b o e => ⟨ne0 b o e, ka b o e⟩)
      fun out o1 o2 => ⟨.none, rfl, ?_⟩) (PyProof.Rows.args_list_sort _)
  show EP X pins σ Q (.ref h'.objs.size) { s with heap := sortedHeap h2 h'.objs.size (as.map Value.ref) out.toArray, toks := tk }
  obtain ⟨bs, pb, rfl⟩ := perm_refs o2.perm
  have kF : ∀ b o, b ≠ h'.objs.size → h2.get? b = some o → (sortedHeap h2 h'.objs.size (as.map Value.ref) (bs.map Value.ref).toArray).get? b = some o := fun b o hb e => (PyProof.Rows.sortedHeap_old hb (Heap.lt_size e)).trans e
  have kS : ∀ b o, s.heap.get? b = some o → (sortedHeap h2 h'.objs.size (as.map Value.ref) (bs.map Value.ref).toArray).get? b = some o := fun b o e => kF b o (ne0 _ _ (hk b o e)) (kb b o e)
  obtain ⟨eF, heF⟩ := PyProof.Rows.sortedHeap_at (vs := as.map Value.ref) (out := (bs.map Value.ref).toArray) hob
  have I1 : Inv X pins σ H { s with heap := sortedHeap h2 h'.objs.size (as.map Value.ref) (bs.map Value.ref).toArray, toks := tk } := I.kept (t' := tk) kS
  have hn0 : H h'.objs.size = none := I.hok.fresh (Nat.le_of_lt hlt)
  have hlen : (bs.map V.ref).length ≤ sizeLine := by rw [List.length_map, pb.length_eq]; omega
  have I2 : Inv X pins σ (upd H h'.objs.size (.lst (bs.map V.ref))) { s with heap := sortedHeap h2 h'.objs.size (as.map Value.ref) (bs.map Value.ref).toArray, toks := tk } :=
    I1.take (h' := sortedHeap h2 h'.objs.size (as.map Value.ref) (bs.map Value.ref).toArray) (t' := tk) (fun b ob _ e => e) (I.fpOk (Nat.le_of_lt hlt) hn0) ⟨hlen, bs.map Value.ref, eF, LiI.vals_refs bs, heF⟩
  obtain ⟨H2, I3, g, qt⟩ := takeT (P := fun b ys => ys = [kV (lookA (as.zip kvs) b).1, (lookA (as.zip kvs) b).2]) I as _ I2 nd fun b hb => by
    obtain ⟨z, t, x, e1, hg, _⟩ := pr b hb
    have hbl : s.heap.objs.size ≤ b := Nat.le_of_lt (hG.above b hb)
    refine ⟨hbl, ?_, _, rfl, fun H3 => ?_⟩
    · rw [upd_ne (ne0 _ _ hg)]
      exact I.hok.fresh hbl
    · rw [e1]
      exact ⟨(by rw [sizeLine_eq]; show 2 ≤ 16777216; omega), [Value.str z t, Value.ref x], .cons ⟨t, rfl⟩ (.cons rfl .nil), ⟨_, kF _ _ (ne0 _ _ hg) (ka _ _ hg), rfl, 0, rfl⟩⟩
  have gr : ∀ b o, H b = some o → H2 b = some o := fun b o e => g b o (by rw [upd_ne (ne_of_none e hn0)]; exact e)
  have gd : ∀ b, H2 b = none → H b = none := fun b e => by
    cases hb : H b with
    | none => rfl
    | some o => rw [gr b o hb] at e; cases e
  refine ⟨.ref h'.objs.size, H2, I3, rfl, q H2 h'.objs.size (bs.map (lookA (as.zip kvs))) bs ⟨fun e _ => gr _ _ e, fun e => gr _ _ e, gd _⟩ hn0 ?_ ?_ (g _ _ upd_same) (paired_map fun b hb => ?_)⟩
  · have := pb.map (lookA (as.zip kvs))
    rw [L] at this
    exact this
  · have hs := o1
    rw [SrtO.Srtd, List.pairwise_map] at hs
    rw [List.map_map, List.pairwise_map]
    have hn2 : bs.Nodup := pb.nodup_iff.mpr nd
    have both := hs.and hn2
    refine List.Pairwise.imp_of_mem (fun {x y} hx hy hxy => ?_) both
    obtain ⟨h1, h2'⟩ := hxy
    have hx' := pb.mem_iff.mp hx
    have hy' := pb.mem_iff.mp hy
    obtain ⟨z, t, v, e1, _, m1⟩ := pr x hx'
    obtain ⟨z2, t2, v2, e2, _, m2⟩ := pr y hy'
    have h1' : lexK [(lookA (as.zip kvs) y).1] [(lookA (as.zip kvs) x).1] = false := h1
    show keyLt (lookA (as.zip kvs) x).1 (lookA (as.zip kvs) y).1 = true
    have hndk : (kvs.map (·.1)).Nodup := by rw [kv_keys kv]; exact hnd
    have ne : (lookA (as.zip kvs) x).1 ≠ (lookA (as.zip kvs) y).1 := by
      intro e
      rw [← L, List.map_map] at hndk
      obtain ⟨i, hi, ei⟩ := List.getElem_of_mem hx'
      obtain ⟨j, hj, ej⟩ := List.getElem_of_mem hy'
      have hij : i = j := by
        refine (List.getElem?_inj (by rw [List.length_map]; exact hi) hndk).mp ?_
        rw [List.getElem?_map, List.getElem?_map, List.getElem?_eq_getElem hi, List.getElem?_eq_getElem hj, ei, ej]
        exact congrArg some e
      subst hij
      exact h2' (ei.symm.trans ej)
    rcases keyLt_tri ne with c | c
    · exact c
    · rw [lexK, if_neg (fun e => ne e.symm), c] at h1'
      cases h1'
  · obtain ⟨ys, e, hH⟩ := qt b (pb.mem_iff.mp hb)
    rw [hH, e]
end RT

/-! ## 27. a tuple turned about; texts walked; things of any kind -/
namespace RT
open PySem PySem.Spec PyProof.Rows L2 HT
section
variable {prog : Program} {w : World} {A : Around} {E : Value → Shared → Prop} {s : Shared}
theorem adjust_back (n : Nat) : Builtin.Slice.sliceAdjust none none (-1) (n : Int) = ((n : Int) - 1, -1) := by
  unfold Builtin.Slice.sliceAdjust
  rfl
theorem places_back (n : Nat) : Builtin.Slice.slicePlaces ((n : Int) - 1) (-1) (-1) = n := by
  unfold Builtin.Slice.slicePlaces
  have h1 : ¬ ((-1 : Int) > 0) := by omega
  simp only [h1, if_false]
  split
  · rw [show -(-1 : Int) = 1 from rfl, Int.ediv_one]; omega
  · omega
theorem pick_back (xs : List Value) : ((List.range xs.toArray.size).filterMap fun (m : Nat) => xs.toArray[((xs.toArray.size : Int) - 1 + (m : Int) * (-1)).toNat]?).toArray = xs.reverse.toArray := by
  congr 1
  rw [List.size_toArray]
  apply List.ext_getElem?
  intro i
  have key : ∀ n : Nat, n ≤ xs.length → ((List.range n).filterMap fun (m : Nat) => xs.toArray[((xs.length : Int) - 1 + (m : Int) * (-1)).toNat]?) = (xs.reverse).take n := by
    intro n
    induction n with
    | zero => intro _; rfl
    | succ n ih =>
      intro hn
      rw [List.range_succ, List.filterMap_append, ih (by omega)]
      have e : ((xs.length : Int) - 1 + (n : Int) * (-1)).toNat = xs.length - 1 - n := by omega
      obtain ⟨y, hx⟩ : ∃ y, xs[xs.length - 1 - n]? = some y := ⟨_, List.getElem?_eq_getElem (by omega)⟩
      rw [List.filterMap_cons, List.filterMap_nil, e, List.getElem?_toArray, hx]
      rw [List.take_add_one, List.getElem?_reverse (by omega), hx]
      rfl
  rw [key xs.length (Nat.le_refl _), List.take_of_length_le (by rw [List.length_reverse]; exact Nat.le_refl _)]
theorem sliceApplied_back {sl : Addr} {vl vu vs : Value} {n : Nat} {Q : Int × Int × Nat → Shared → Prop} (hs : s.heap.IsSliceOf sl vl vu vs) (pl : IsPart vl none) (pu : IsPart vu none) (ps : IsPart vs (some (-1)))
    (h : Q ((n : Int) - 1, -1, n) s) : wpAny (model prog w) A (Builtin.Slice.sliceApplied (.ref sl) (pure (n : Int))) Q E s := by
  obtain ⟨os, hos, hcs, hds⟩ := id hs
  unfold Builtin.Slice.sliceApplied Builtin.Slice.sliceFields
  refine wpAny_bind (wpAny_bind (wpAny_field hos hds (x := vl) rfl (wpAny_bind (wpAny_field hos hds (x := vu) rfl (wpAny_bind (wpAny_field hos hds (x := vs) rfl (wpAny_pure ?_)))))))
  refine wpAny_bind (slicePart_ ps ?_)
  show wpAny _ _ (if ((-1 : Int) == 0) = true then _ else _) _ _ s
  rw [if_neg (by decide)]
  refine wpAny_bind (slicePart_ pl (wpAny_bind (slicePart_ pu (wpAny_bind (wpAny_pure ?_)))))
  show wpAny _ _ (match Builtin.Slice.sliceAdjust none none (-1) (n : Int) with | (lo, hi) => pure (lo, (-1 : Int), Builtin.Slice.slicePlaces lo hi (-1))) _ _ s
  rw [adjust_back n]
  show wpAny _ _ (pure ((n : Int) - 1, (-1 : Int), Builtin.Slice.slicePlaces ((n : Int) - 1) (-1) (-1))) _ _ s
  rw [places_back]
  exact wpAny_pure h
theorem getItem_tuple_back {t sl : Addr} {items : List Value} {vl vu vs : Value} {Q : Value → Shared → Prop} (ht : IsTup s.heap t items.toArray) (hs : s.heap.IsSliceOf sl vl vu vs) (pl : IsPart vl none) (pu : IsPart vu none) (ps : IsPart vs (some (-1)))
    (h : Q (.ref s.heap.objs.size) { s with heap := s.heap.push { cls := .type "tuple", data := .seq items.reverse.toArray } })
    (hsz : items.length ≤ sizeLine) : wpAny (model prog w) A (getItem (.ref t) (.ref sl)) Q E s := by
  have htake : sizeOk (.seq items.reverse.toArray) := by
    show items.reverse.toArray.size ≤ sizeLine
    rw [List.size_toArray, List.length_reverse]
    exact hsz
  obtain ⟨os, hos, hcs, hds⟩ := id hs
  have hTs : s.TypeIs (.ref sl) "slice" := ⟨os, hos, hcs⟩
  unfold getItem
  try with_reducible refine wpAny_holding ?_
  first | refine wpAny_bind (wpAny_pure ?_) | skip
  refine wpAny_bind (wpAny_sequenceKey ht.typeIs (by decide) ?_)
  refine wpAny_bind (wpAny_callSpecial?_slot (name := Str.ofString "__getitem__") ht.typeIs PyProof.Rows.slot_tuple_getitem
    (wpAny_call_entry PyProof.Rows.slot_tuple_getitem ht.typeIs entry_tuple_getitem ?_ (args_tuple_getitem _ _)))
  show wpAny _ _ (Builtin.Tuple.tupleItemsOf (.ref t) >>= _) _ _ s
  refine wpAny_bind (tupleItemsOf_ ht ?_)
  refine wpAny_bind (wpAny_typeOf hTs ?_)
  rw [if_pos (by decide)]
  refine wpAny_bind (sliceApplied_back hs pl pu ps ?_)
  have hno : ¬ ((((items.toArray.size : Int) - 1) == 0 && (-1 : Int) == 1 && items.toArray.size == items.toArray.size) = true) := by
    simp
  show wpAny _ _ (if (((items.toArray.size : Int) - 1) == 0 && (-1 : Int) == 1 && items.toArray.size == items.toArray.size) = true then _ else _) _ _ s
  rw [if_neg hno, pick_back]
  first
    | exact wpAny_bind (m := Builtin.Tuple.tupleExact _) (wpAny_newObj_type (wpAny_pure ⟨_, rfl, wpAny_pure h⟩) htake)
    | exact wpAny_bind (m := Builtin.Tuple.tupleExact _) (wpAny_newObj_type (wpAny_bind (wpAny_pure (wpAny_pure ⟨_, rfl, wpAny_pure h⟩))) htake)
    | exact wpAny_bind (wpAny_bind (m := Builtin.Tuple.tupleExact _) (wpAny_newObj_type (wpAny_pure (wpAny_pure ⟨_, rfl, wpAny_pure h⟩)) htake))
    | exact wpAny_bind (wpAny_bind (m := Builtin.Tuple.tupleExact _) (wpAny_newObj_type (wpAny_pure ⟨_, rfl, wpAny_pure h⟩) htake))
end
def BackT (K : PySem.W.Frag) (x : V) (H1 : Hp) (Q : VK) : Prop := ∃ a xs, x = .ref a ∧ SqT K H1 a xs ∧ ∀ p, H1 p = none → Q (.ref p) (upd H1 p (.tup xs.reverse))
def tRevT (K : PySem.W.Frag) (te : TE) : TE := fun σ H Q => te σ H fun x H1 => BackT K x H1 Q
theorem pe_revT {X : Cx} {K : PySem.W.Frag} {e : Expr} {te : TE} {k : Nat} {p1 p2 p3 pos : Pos} (he : PE X e te) (hK : X.K = K := by rfl) : PE X (.Subscript e (.Slice none none (some (.UnaryOp .USub (.Constant (.int 1) k p1) p2)) p3) pos) (tRevT K te) := by
  subst hK
  refine ⟨fun pins s σ H Q I h => ?_⟩
  refine Subscript_ (thn (he.run pins s σ H _ I h) fun v s1 ⟨x, H1, I1, r1, q1⟩ => ?_)
  obtain ⟨a, xs, ex, hx, q⟩ := q1
  subst ex
  cases r1
  have hst : PO X (some (.UnaryOp .USub (.Constant (.int 1) k p1) p2)) (tPart (tUn (rU fun i => .int (-i)) (tC (.int 1)))) := po_some (pe_un un_neg pe_int)
  refine wpAny_Slice (thn (po_none.run pins s1 σ H1 (fun o H2 => o = none ∧ H2 = H1) I1 ⟨rfl, rfl⟩) fun vl s2 ⟨l, H2, I2, pl, el, e2⟩ => ?_)
  subst el e2
  refine thn (po_none.run pins s2 σ H2 (fun o H3 => o = none ∧ H3 = H2) I2 ⟨rfl, rfl⟩) fun vu s3 ⟨u, H3, I3, pu, eu, e3⟩ => ?_
  subst eu e3
  refine thn (hst.run pins s3 σ H3 (fun o H4 => o = some (-1) ∧ H4 = H3) I3 ⟨1, rfl, -1, rfl, rfl, rfl⟩) fun vs s4 ⟨o, H4, I4, ps, eo, e4⟩ => ?_
  subst eo e4
  have I5 : Inv X pins σ H4 { s4 with heap := s4.heap.push { cls := .type "slice", data := .fields #[vl, vu, vs] } } := I4.kept (t' := s4.toks) fun b ob q => Heap.get?_push_of_some _ q
  obtain ⟨its, r, ht, hz⟩ := I5.tuple hx
  have hlen := r.length
  show wpAny (model X.prog X.w) X.A (subscriptTail e (.Slice none none (some (.UnaryOp .USub (.Constant (.int 1) k p1) p2)) p3) (.ref a) (.ref s4.heap.objs.size)) (EP X pins σ Q) X.xe { s4 with heap := s4.heap.push { cls := .type "slice", data := .fields #[vl, vu, vs] } }
  have htt : (({ s4 with heap := s4.heap.push { cls := .type "slice", data := .fields #[vl, vu, vs] } } : Shared)).TypeIs (.ref a) "tuple" := IsTup.typeIs ht
  refine tail_any (ops := [.ref a, .ref s4.heap.objs.size]) htt (PyProof.Rows.slot_tuple_getitem.lookup) ?_ (by with_unfolding_all rfl)
  refine getItem_tuple_back ht (Heap.IsSliceOf.new _ vl vu vs) pl pu ps ?_ (by omega)
  refine ⟨.ref _, _, I5.laid (t' := s4.toks) (o := .tup xs.reverse) (fun b ob q => Heap.get?_push_of_some _ q) (Nat.le_refl _) ?_, rfl, q _ (I5.hok.fresh (Nat.le_refl _))⟩
  exact ⟨by rw [List.length_reverse]; omega, _, r.reverse, ⟨_, Heap.get?_push_size _ rfl, rfl, 0, rfl⟩⟩
theorem v_revT {K : PySem.W.Frag} {te : TE} {σ : L2.St} {H : Hp} {Q : VK} (h : te σ H fun x H1 => BackT K x H1 Q) : tRevT K te σ H Q := h
theorem v_backT {K : PySem.W.Frag} {H : Hp} {Q : VK} {a : Addr} {xs : List V} (h : SqT K H a xs) (q : ∀ p H', H p = none → Chg [] H H' → H' p = some (.tup xs.reverse) → Q (.ref p) H') : BackT K (.ref a) H Q :=
  ⟨a, xs, rfl, h, fun p hp => q p _ hp (.new hp) upd_same⟩
/-! a text, sign by sign -/
section
variable {g : TG} {tb : TS} {n : L2.St → Hp → Prop} {r : VK} {b c : L2.St → Hp → Prop} {σ : L2.St} {H : Hp}
theorem v_for_str {z : Str} (Pv : Nat → L2.St → Hp → Prop) (h0 : Pv 0 σ H)
    (hs : ∀ i x σ H, z.cps.toList[i]? = some x → Pv i σ H → g (.str ⟨#[x]⟩) σ H fun σ2 H2 => tb ⟨Pv (i + 1), r, n, Pv (i + 1)⟩ σ2 H2) (hd : ∀ σ H, Pv z.length σ H → n σ H) : ForQ (Its z) g tb ⟨n, r, b, c⟩ σ H := by
  refine ⟨fun i m σ H => m = z.length - i ∧ i ≤ z.length ∧ Pv i σ H, ⟨z.length, by simp, Nat.zero_le _, h0⟩, ?_⟩
  rintro i m σ H ⟨rfl, hi, p⟩
  by_cases hlt : i < z.length
  · refine .inr ⟨hlt, Pv (i + 1), fun σ' H' p' => ⟨z.length - (i + 1), by omega, rfl, hlt, p'⟩, fun x H' y => ?_⟩
    obtain ⟨e, c, hc, rfl⟩ := y
    subst e
    exact hs i c σ _ (by rw [Array.getElem?_toList]; exact hc) p
  · have e : i = z.length := by omega
    subst e
    exact .inl ⟨Nat.le_refl _, hd σ H p⟩
theorem v_lc_str {z : Str} {tt : TT} {te : TE} {vs : List Nat} {Q : VK} (S : List Addr) (Pv : Nat → List V → Hp → Prop) (hS : ∀ b ∈ S, H b ≠ none)
    (h0 : ∀ H', Chg [] H H' → Pv 0 [] H')
    (hs : ∀ D i x acc H1, z.cps.toList[i]? = some x → H D = none → D ∉ S → Chg S H H1 → H1 D = some (.lst acc) → Pv i acc H1 → g (.str ⟨#[x]⟩) (wipe σ vs) H1 fun σ2 H2 => wipe σ2 vs = wipe σ vs ∧ tt σ2 H2 fun k H3 =>
      if k = true then te σ2 H3 fun y H4 => LcA D (LcI S H D Pv (i + 1)) y H4 else LcI S H D Pv (i + 1) H3)
    (hd : ∀ D acc H', Chg S H H' → H D = none → H' D = some (.lst acc) → Pv z.length acc H' → Q (.ref D) H') : LcQ (Its z) g tt te vs σ H Q := by
  intro D hD
  have dS : D ∉ S := fun m => hS D m hD
  refine ⟨fun i m H' => m = z.length - i ∧ i ≤ z.length ∧ LcI S H D Pv i H', ⟨z.length, by simp, Nat.zero_le _, [], (Chg.new hD).of0, upd_same, h0 _ (.new hD)⟩, ?_⟩
  rintro i m H1 ⟨rfl, hi, acc, c, e, p⟩
  by_cases hlt : i < z.length
  · refine .inr ⟨hlt, LcI S H D Pv (i + 1), fun H' p' => ⟨z.length - (i + 1), by omega, rfl, hlt, p'⟩, fun x H' y => ?_⟩
    obtain ⟨e1, x', hx, rfl⟩ := y
    subst e1
    exact hs D i x' acc _ (by rw [Array.getElem?_toList]; exact hx) hD dS c e p
  · have e1 : i = z.length := by omega
    subst e1
    exact .inl ⟨Nat.le_refl _, hd D acc H1 c hD e p⟩
end
end RT

/-! ## 28. lists of unlike lengths are unlike -/
namespace PySem.SeqAt
open AutoSeq1 (wpAny_loadPart')
open MeetsSeq MeetsSeq2 MeetsSeq3 SeqRoads2
section
variable {prog : Program} {w : World}
theorem rt_list_eq_len (l b : Addr) (items items2 : Array Value) (n n2 : Nat) (dd dd2 : Option Addr) (sl sl2 : Array (Option Value)) (hsz : items.size ≠ items2.size) :
    MeetsIn prog w (Builtin.«list.__eq__» ⟨[.ref l, .ref b], []⟩)
      (fun A R s => s.heap.get? l = some { cls := .type "list", dict := dd, data := .seq items n, slots := sl } ∧ s.heap.get? b = some { cls := .type "list", dict := dd2, data := .seq items2 n2, slots := sl2 } ∧
        R (.ok (.ret (.bool false))) s) := by
  intro A R s h
  obtain ⟨hp, g, d, tk, os⟩ := s; obtain ⟨hl, hb, h⟩ := h
  have f3 := AutoSeq1.sub_list_list
  have hne : (items.size != items2.size) = true := by simp [hsz]
  wp_walk using wpAny_loadPart' hl, wpAny_loadPart' hb
  all_goals exact h
theorem rt_list_ne_len (l b : Addr) (items items2 : Array Value) (n n2 : Nat) (dd dd2 : Option Addr) (sl sl2 : Array (Option Value)) (hsz : items.size ≠ items2.size) :
    MeetsIn prog w (Builtin.«list.__ne__» ⟨[.ref l, .ref b], []⟩)
      (fun A R s => s.heap.get? l = some { cls := .type "list", dict := dd, data := .seq items n, slots := sl } ∧ s.heap.get? b = some { cls := .type "list", dict := dd2, data := .seq items2 n2, slots := sl2 } ∧
        R (.ok (.ret (.bool true))) s) := by
  intro A R s h
  obtain ⟨hp, g, d, tk, os⟩ := s; obtain ⟨hl, hb, h⟩ := h
  have f3 := AutoSeq1.sub_list_list
  have hne : (items.size != items2.size) = true := by simp [hsz]
  wp_walk using wpAny_loadPart' hl, wpAny_loadPart' hb
  all_goals exact h
theorem rt_eq_len {A : Around} {s : Shared} {l b : Addr} {items items2 : Array Value} (hl : s.heap.IsList l items) (hb : s.heap.IsList b items2) (hsz : items.size ≠ items2.size) (hu : A.units < cLine)
    (E Q : Value → Shared → Prop) (h : Q (.bool false) s) : wpAny (model prog w) A (richCompare .Eq (.ref l) (.ref b)) Q E s := by
  obtain ⟨⟨cls, dd, data, sl⟩, ho, hc, n, hd⟩ := id hl
  obtain ⟨⟨cls2, dd2, data2, sl2⟩, ho2, hc2, n2, hd2⟩ := id hb
  simp only at hc hd hc2 hd2
  subst hc hd hc2 hd2
  have ta : s.TypeIs (.ref l) "list" := ⟨_, ho, rfl⟩
  have tb : s.TypeIs (.ref b) "list" := ⟨_, ho2, rfl⟩
  exact wpAny_richCompare_same_room (op := .Eq) ta tb F.slot_list_eq (call_meetsIn F.slot_list_eq ta F.entry_list_eq (F.args_list_eq_2 _ _) (rt_list_eq_len l b items items2 n n2 dd dd2 sl sl2 hsz)
    ⟨ho, ho2, show Value.bool false ≠ Value.notImplemented ∧ Q (.bool false) s from ⟨(fun x => nomatch x), h⟩⟩) hu
theorem rt_ne_len {A : Around} {s : Shared} {l b : Addr} {items items2 : Array Value} (hl : s.heap.IsList l items) (hb : s.heap.IsList b items2) (hsz : items.size ≠ items2.size) (hu : A.units < cLine)
    (E Q : Value → Shared → Prop) (h : Q (.bool true) s) : wpAny (model prog w) A (richCompare .NotEq (.ref l) (.ref b)) Q E s := by
  obtain ⟨⟨cls, dd, data, sl⟩, ho, hc, n, hd⟩ := id hl
  obtain ⟨⟨cls2, dd2, data2, sl2⟩, ho2, hc2, n2, hd2⟩ := id hb
  simp only at hc hd hc2 hd2
  subst hc hd hc2 hd2
  have ta : s.TypeIs (.ref l) "list" := ⟨_, ho, rfl⟩
  have tb : s.TypeIs (.ref b) "list" := ⟨_, ho2, rfl⟩
  exact wpAny_richCompare_same_room (op := .NotEq) ta tb F.slot_list_ne (call_meetsIn F.slot_list_ne ta F.entry_list_ne (F.args_list_ne_2 _ _) (rt_list_ne_len l b items items2 n n2 dd dd2 sl sl2 hsz)
    ⟨ho, ho2, show Value.bool true ≠ Value.notImplemented ∧ Q (.bool true) s from ⟨(fun x => nomatch x), h⟩⟩) hu
end
end PySem.SeqAt
namespace RT
open PySem PySem.Spec PyProof.Rows L2
def rEqLen (K : PySem.W.Frag) (neg : Bool) : R2 := fun x y H Q => ∃ a b xs ys, x = .ref a ∧ y = .ref b ∧ SqL K H a xs ∧ SqL K H b ys ∧ xs.length ≠ ys.length ∧ Q (.bl neg) H
theorem op_eqLen {X : Cx} (hu : X.A.units < cLine) : OpR X (compareOp .Eq) (rEqLen X.K false) := by
  intro pins s σ H x y v u Q I rx ry h
  obtain ⟨a, b, xs, ys, rfl, rfl, ha, hb, hn, q⟩ := h
  cases rx
  cases ry
  obtain ⟨its, r1, p1, z1⟩ := I.list ha
  obtain ⟨jts, r2, p2, z2⟩ := I.list hb
  exact PySem.SeqAt.rt_eq_len p1.isList p2.isList (by rw [List.size_toArray, List.size_toArray, ← r1.length, ← r2.length]; exact hn) hu _ _ ⟨.bl false, H, I, rfl, q⟩
theorem op_neLen {X : Cx} (hu : X.A.units < cLine) : OpR X (compareOp .NotEq) (rEqLen X.K true) := by
  intro pins s σ H x y v u Q I rx ry h
  obtain ⟨a, b, xs, ys, rfl, rfl, ha, hb, hn, q⟩ := h
  cases rx
  cases ry
  obtain ⟨its, r1, p1, z1⟩ := I.list ha
  obtain ⟨jts, r2, p2, z2⟩ := I.list hb
  exact PySem.SeqAt.rt_ne_len p1.isList p2.isList (by rw [List.size_toArray, List.size_toArray, ← r1.length, ← r2.length]; exact hn) hu _ _ ⟨.bl true, H, I, rfl, q⟩
def uEqL (K : PySem.W.Frag) : R2 := fun x y H Q => uEq K x y H Q ∨ rEqLen K false x y H Q
def uNeL (K : PySem.W.Frag) : R2 := fun x y H Q => uNe K x y H Q ∨ rEqLen K true x y H Q
theorem op_ueqL {X : Cx} {K : PySem.W.Frag} {k : Nat} (hr : L2H.RoomH k X.A) (hK : X.K = K := by rfl) : OpR X (compareOp .Eq) (uEqL K) := by
  subst hK
  exact OpR.or (op_ueq hr) (op_eqLen (by have := hr.un; omega))
theorem op_uneL {X : Cx} {K : PySem.W.Frag} {k : Nat} (hr : L2H.RoomH k X.A) (hK : X.K = K := by rfl) : OpR X (compareOp .NotEq) (uNeL K) := by
  subst hK
  exact OpR.or (op_une hr) (op_neLen (by have := hr.un; omega))
def uGe : R2 := fun x y H Q => rI0 (fun i j => .bl (decide (i ≥ j))) x y H Q ∨ ∃ i j, x = .str i ∧ y = .str j ∧ Q (.bl (!decide (i.cps.toList < j.cps.toList))) H
theorem op_uge {X : Cx} : OpR X (compareOp .GtE) uGe := OpR.or op_ge op_ge_str
/-- not e as a value, by truth -/
def tNotX (K : PySem.W.Frag) (ta : TE) : TE := fun σ H Q => ta σ H fun x H1 => Tru K x H1 fun k => Q (.bl (!k)) H1
theorem pe_notU {X : Cx} {K : PySem.W.Frag} {a : Expr} {ta : TE} {pos : Pos} (ha : PE X a ta) (hK : X.K = K := by rfl) : PE X (.UnaryOp .Not a pos) (tNotX K ta) := by
  subst hK
  exact pe_notT ha
theorem v_notX {K : PySem.W.Frag} {ta : TE} {σ : L2.St} {H : Hp} {Q : VK} (h : ta σ H fun x H1 => Tru K x H1 fun k => Q (.bl (!k)) H1) : tNotX K ta σ H Q := h
section
variable {H : Hp} {Q : VK} {K : PySem.W.Frag} {a b : Addr} {x y : V} {xs : List V}
theorem v_eqL (h : uEq K x y H Q) : uEqL K x y H Q := .inl h
theorem v_neL (h : uNe K x y H Q) : uNeL K x y H Q := .inl h
/-- a list and the empty one -/
theorem v_eqL_nil (h1 : SqL K H a xs) (h2 : SqL K H b []) (q : Q (.bl xs.isEmpty) H) : uEqL K (.ref a) (.ref b) H Q := by
  cases xs with
  | nil => exact .inl (v_eq_nil2 h1 h2 q)
  | cons x xs => exact .inr ⟨a, b, _, _, rfl, rfl, h1, h2, by simp, q⟩
theorem v_neL_nil (h1 : SqL K H a xs) (h2 : SqL K H b []) (q : Q (.bl (!xs.isEmpty)) H) : uNeL K (.ref a) (.ref b) H Q := by
  cases xs with
  | nil => exact .inl (v_ne_nil2 h1 h2 q)
  | cons x xs => exact .inr ⟨a, b, _, _, rfl, rfl, h1, h2, by simp, q⟩
theorem v_lt_ss {i j : Str} (q : Q (.bl (decide (i.cps.toList < j.cps.toList))) H) : uLt (.str i) (.str j) H Q := .inr ⟨_, _, rfl, rfl, q⟩
theorem v_ge_ii {i j : Int} (q : Q (.bl (decide (i ≥ j))) H) : uGe (.int i) (.int j) H Q := .inl ⟨_, _, rfl, rfl, q⟩
theorem v_ge_ss {i j : Str} (q : Q (.bl (!decide (i.cps.toList < j.cps.toList))) H) : uGe (.str i) (.str j) H Q := .inr ⟨_, _, rfl, rfl, q⟩
end
theorem atI_1 {α : Type} (x y : α) (xs : List α) : atI (x :: y :: xs) 1 = some y := atI_nat (j := 1) (by simp)
theorem cut_1 (xs : List V) : cutV xs (some 1) none = xs.drop 1 := by
  unfold cutV HT.sIx
  simp only
  cases xs with
  | nil => rfl
  | cons x xs => simp
theorem v_mul_l {H : Hp} {Q : VK} {a : Addr} {xs : List V} {k : Nat} (h : H a = some (.lst xs)) (hk : k ≤ 1000) (hl : xs.length * k ≤ 10000)
    (q : ∀ p H', H p = none → Chg [] H H' → H' p = some (.lst (List.replicate k xs).flatten) → Q (.ref p) H') : uMul (.ref a) (.int k) H Q :=
  .inr ⟨a, k, xs, rfl, rfl, h, by omega, by omega, by rw [Int.toNat_natCast, sizeLine_eq]; omega, fun p hp => q p _ hp (.new hp) (by rw [Int.toNat_natCast]; exact upd_same)⟩
/-- a or b, where what comes behind is the same for both -/
def tOrJ (K : PySem.W.Frag) (te tf : TE) : TE := tOrT K te tf
theorem pe_orJU {X : Cx} {K : PySem.W.Frag} {a b : Expr} {ta tb : TE} {rest : List Expr} {pos : Pos} (ha : PE X a ta) (hb : PE X (.BoolOp .Or (b :: rest) pos) tb) (hK : X.K = K := by rfl) : PE X (.BoolOp .Or (a :: b :: rest) pos) (tOrJ K ta tb) := pe_orTU ha hb hK
theorem v_orJ {K : PySem.W.Frag} {te tf : TE} {σ : L2.St} {H : Hp} {U : VK} (R : V → Hp → Prop) (k : ∀ x H, R x H → U x H) (h : ∀ U : VK, (∀ x H, R x H → U x H) → te σ H fun x H1 => Tru K x H1 fun b => if b = true then U x H1 else tf σ H1 U) : tOrJ K te tf σ H U := h U k
section
variable {H : Hp} {Q : VK} {K : PySem.W.Frag}
theorem v_dictT {a : Addr} {ps : List Addr} {kvs : List (Key × V)} (h1 : FzT H a (ps.map V.ref)) (h2 : Paired (fun p (kv : Key × V) => SqT K H p [kV kv.1, kv.2]) ps kvs) (q : ∀ p H', H p = none → Chg [] H H' → H' p = some (.dK (mergeK [] kvs)) → Q (.ref p) H') : uDictT K [.ref a] H Q :=
  ⟨a, ps, kvs, rfl, h1, h2, fun p hp => q p _ hp (.new hp) upd_same⟩
theorem v_itemsK {a : Addr} {kvs : List (Key × V)} (h : H a = some (.dK kvs)) (q : ∀ p H', H p = none → Chg [] H H' → H' p = some (L2.DX.itemsO p a) → Q (.ref p) H') : rItemsK (.ref a) [] H Q :=
  ⟨a, kvs, rfl, rfl, h, fun p hp => q p _ hp (.new hp) upd_same⟩
theorem v_sortIK {p a : Addr} {kvs : List (Key × V)} (h1 : H p = some (L2.DX.itemsO p a)) (h2 : H a = some (.dK kvs)) (h3 : ∀ q ∈ kvs, ∃ z t, q = (.inr z, .ref t))
    (q : ∀ (H' : Hp) (l : Addr) (kvs' : List (Key × V)) (ts : List Addr), Chg [] H H' → H l = none → kvs'.Perm kvs → (kvs'.map (·.1)).Pairwise (fun x y => keyLt x y = true) → H' l = some (.lst (ts.map V.ref)) →
      Paired (fun t q => H' t = some (.tup [kV q.1, q.2])) ts kvs' → Q (.ref l) H') : rSortIK [.ref p] H Q := ⟨p, a, kvs, rfl, h1, h2, h3, q⟩
theorem v_bmd {p : Addr} {kvs : List (Key × V)} {P : Prop} (h : H p = some (.dK kvs)) (q : P) : BM K "dict" (.ref p) H P := ⟨.inr (.inr (.inl ⟨rfl, .inl ⟨kvs, h⟩⟩)), q⟩
theorem v_len_dK {a : Addr} {kvs : List (Key × V)} (h : H a = some (.dK kvs)) (q : Q (.int kvs.length) H) : uLen K [.ref a] H Q := .inr ⟨a, kvs, rfl, h, q⟩
end
/-! isinstance of (tuple, list) -/
def uIsiT (K : PySem.W.Frag) : List V → Hp → VK → Prop := rIsiT K
theorem call_uisiT {X : Cx} {K : PySem.W.Frag} (hK : X.K = K := by rfl) : CallR X (.builtin "isinstance") (uIsiT K) := by
  subst hK
  exact call_isiT
theorem v_isiT_two {K : PySem.W.Frag} {H : Hp} {Q : VK} {x : V} {tp : Addr} {S R t : String} {b1 b2 : Bool} (h : TyX K H x (.type t)) (e : H tp = some (.tup [.ty S, .ty R])) (k1 : kitB t S = some b1) (k2 : kitB t R = some b2) (q : Q (.bl (b1 || b2)) H) : uIsiT K [x, .ref tp] H Q :=
  ⟨x, tp, _, _, [.type S, .type R], _, rfl, e, .cons (.ty S) (.cons (.ty R) .nil), h, kitAny_cons (kit_ty k1) (fun hb => by subst hb; exact kitAny_cons (kit_ty k2) (fun hb => by subst hb; exact kitAny_nil) (fun hb => by subst hb; rfl)) (fun hb => by subst hb; rfl), q⟩
end RT

namespace RT
open PySem PySem.Spec PyProof.Rows L2
/-! ## 30. classes of the text -/
structure ClsAt (K : PySem.W.Frag) (mg : Str → Option Value) (n : Str) (fds : List Str) : Type where
  C : Addr
  g : mg n = some (.ref C)
  cl : L2.Cls K C
  mks : PySem.W.makesIn K C = true
  kp : PySem.W.keepIn K (.ref C) = true
  na : ∀ f ∈ fds, NoAttr K C f
/-- a method that a class has: its text, its full name -/
structure MetAt (K : PySem.W.Frag) (C : Addr) (m q : Str) (st : Stmt) : Prop where
  ex : ∃ f fd, PySem.W.findIn K (.ref C) m = some (some (.ref f)) ∧ PySem.W.isFn K (.ref f) = true ∧ Fun K m q st f fd
structure OwnM (P : Program) (w : World) (K : PySem.W.Frag) (mg : Str → Option Value) (base : Heap) (C : Addr) (m : Str) (k : Nat) (ps : List Str) (sp : Sp) : Prop where
  ex : ∃ f fd, Meth K C m f ∧ Binds K fd ps [] ∧ FnOk P w K mg base (L2N.CX P w) k f fd ps sp
section
variable {P : Program} {w : World} {K : PySem.W.Frag} {mg : Str → Option Value} {base : Heap}
abbrev BindQ (st : Stmt) (x q : Str) (ps : List Str) : Prop := ∀ (kV doc pm : Value) (an : Option Addr) (cdv ct : Value) (us : List Value),
  us.length = ps.length → bindArgs (PySem.W.fnOf x q (defArgs st) (defBody st) (defScope st) .none kV doc pm an cdv ct) ⟨us, []⟩ = pure (ps.zip us)
def FnQ (P : Program) (w : World) (K : PySem.W.Frag) (mg : Str → Option Value) (base : Heap) (x q : Str) (st : Stmt) (k : Nat) (ps : List Str) (sp : Sp) : Prop :=
  ∀ f fd, Fun K x q st f fd → FnOk P w K mg base (L2N.CX P w) k f fd ps sp
theorem fnQ_of {x q : Str} {st : Stmt} {N ps : List Str} {k : Nat} {sp : Sp}
    (S : FnScope N ps (defScope st)) (len : ∀ vs H Q E, sp vs H Q E → vs.length = ps.length)
    (hb : ∀ (f : Addr) (cdv : Value) (A : Around) (outer : List Env) (s : Shared) (H : Hp) (vs : List V) (Q : VK) (E : XK),
      Room k (A.deeper (envOfC q (defScope st) s.heap.objs.size f cdv)) → sp vs H Q E →
      ∃ t, PSs (cxOf (L2N.CX P w) P w K mg base N q (defScope st) f cdv A outer s H E) (defBody st) t ∧
        t ⟨fun _ H' => Q .non H', Q, fun _ _ => False, fun _ _ => False⟩ (L2.start N vs) H) :
    FnQ P w K mg base x q st (k + 1) ps sp := fun f fd F => okN F S len (hb f)
theorem ownM_of {C : Addr} {x q : Str} {st : Stmt} {ps : List Str} {k : Nat} {sp : Sp} (D : MetAt K C x q st) (hb : BindQ st x q ps)
    (h : FnQ P w K mg base x q st k ps sp) : OwnM P w K mg base C x k ps sp := by
  obtain ⟨f, fd, h1, h2, F⟩ := D.ex
  exact ⟨f, fd, ⟨h1, h2, F.kp⟩, F.binds hb, h f fd F⟩
end
section
variable {X : Cx} {j k : Nat} {C : Addr} {ps : List Str} {sp : Sp} {E : L2.St → XK} {x m : Str} {p pos apos : Pos} {o e : Expr} {es : List Expr} {ta : TE} {t : TA}
/-- the receiver: an instance of C -/
def AtI (C : Addr) (m : Str) (x : V) (H : Hp) (R : Prop) : Prop := ∃ a dx fs, x = .ref a ∧ H a = some (.ins C dx fs) ∧ fs.lookup m = none ∧ R
def tMetS (C : Addr) (m : Str) (sp : Sp) (E : L2.St → XK) (ta : TE) (t : TA) : TE := fun σ H Q => ta σ H fun x H1 => AtI C m x H1 (t σ H1 fun vs H2 => sp (x :: vs) H2 Q (E σ))
theorem pe_met {pl : Sem Bool} (O : OwnM X.prog X.w X.K X.mg X.base C m j ps sp) (hj : j ≤ k) (c : L2.Cls X.K C) (hr : Room k X.A) (hx : ∀ σ, PassesAt (L2N.CX X.prog X.w) X σ (E σ)) (ho : PE X o ta) (ha : PA X (e :: es) t)
    (h1 : starEach (e :: es) X.env = (false, eval e X.env) :: starEach es X.env := by rfl) (h2 : (backTo pos (starEach es X.env)).any (·.1) = false := by rfl)
    (h3 : eval (.Call (.Attribute o m apos) (e :: es) [] pos) X.env = (do
      let v0 ← eval o X.env
      standAt apos.atName
      let (g0, l0) ← holding [v0] (getMethod v0 m pl)
      callWith pos g0 l0 (backTo pos (starEach (e :: es) X.env)) (backToKw pos (keywordEach [] X.env))) := by rfl) : PE X (.Call (.Attribute o m apos) (e :: es) [] pos) (tMetS C m sp E ta t) := by
  obtain ⟨f, fd, hm, hb, F⟩ := O.ex
  refine ⟨fun pins s σ H Q I h => PySem.W.methodCall_KW (pl := pl) (thn (ho.run pins s σ H _ I h) fun u s1 ⟨x, H1, I1, rx, a, dx, fs, ex, ea, l, q⟩ => ?_) h3⟩
  subst ex
  have hu : u = Value.ref a := rx
  subst hu
  refine getmeth_ok I1 ea c hm l (PySem.W.callWith_K (first := [.ref a]) (h₀ := X.base) I1.ok.mod.kin hm.kp (thn (ha.run pos pins s1 σ H1 _ I1 q) fun us s2 ⟨vs, H2, I2, r, q2⟩ => ⟨I2.kIn, ?_⟩) h1 h2)
  exact run_fnS (us := .ref a :: us) (vs := .ref a :: vs) F (hr.mono hj) hb (hx σ) I2 (.cons rfl r) q2
theorem pe_met0 {pl : Sem Bool} (O : OwnM X.prog X.w X.K X.mg X.base C m j ps sp) (hj : j ≤ k) (c : L2.Cls X.K C) (hr : Room k X.A) (hx : ∀ σ, PassesAt (L2N.CX X.prog X.w) X σ (E σ)) (ho : PE X o ta)
    (h3 : eval (.Call (.Attribute o m apos) [] [] pos) X.env = (do
      let v0 ← eval o X.env
      standAt apos.atName
      let (g0, l0) ← holding [v0] (getMethod v0 m pl)
      callWith pos g0 l0 (backTo pos (starEach [] X.env)) (backToKw pos (keywordEach [] X.env))) := by rfl) : PE X (.Call (.Attribute o m apos) [] [] pos) (tMetS C m sp E ta tNil) := by
  obtain ⟨f, fd, hm, hb, F⟩ := O.ex
  refine ⟨fun pins s σ H Q I h => PySem.W.methodCall_KW (pl := pl) (thn (ho.run pins s σ H _ I h) fun u s1 ⟨x, H1, I1, rx, a, dx, fs, ex, ea, l, q⟩ => ?_) h3⟩
  subst ex
  have hu : u = Value.ref a := rx
  subst hu
  refine getmeth_ok I1 ea c hm l (PySem.W.callWith_K0 I1.kIn hm.kp ?_)
  exact run_fnS (us := [.ref a]) (vs := [.ref a]) F (hr.mono hj) hb (hx σ) I1 (.cons rfl .nil) q
/-- one expression, two ways to see it -/
def tOr2 (t u : TE) : TE := fun σ H Q => t σ H Q ∨ u σ H Q
theorem pe_or2 {t u : TE} (h : PE X e t) (g : PE X e u) : PE X e (tOr2 t u) := ⟨fun pins s σ H Q I q => q.elim (h.run pins s σ H Q I) (g.run pins s σ H Q I)⟩
/-- C(..): the instance and its dict are new; then its __init__ -/
def tMakS (C : Addr) (sp : Sp) (E : L2.St → XK) (t : TA) : TE := fun σ H Q => t σ H fun vs H1 => ∀ y dx, H1 y = none → H1 dx = none → dx ≠ y →
  sp (.ref y :: vs) (upd (upd H1 dx (.own y)) y (.ins C dx [])) (fun v H2 => v = .non ∧ Q (.ref y) H2) (E σ)
theorem run_mak {pins : List (Addr × Obj)} {σ : L2.St} {H : Hp} {s : Shared} {Q : VK} {us : List Value} {vs : List V} (O : OwnM X.prog X.w X.K X.mg X.base C "__init__" j ps sp) (hj : j + 1 ≤ k) (hm : PySem.W.makesIn X.K C = true) (hr : Room k X.A)
    (hx : PassesAt (L2N.CX X.prog X.w) X σ (E σ)) (I : Inv X pins σ H s) (r : Vals vs us)
    (h : ∀ y dx, H y = none → H dx = none → dx ≠ y → sp (.ref y :: vs) (upd (upd H dx (.own y)) y (.ins C dx [])) (fun v H2 => v = .non ∧ Q (.ref y) H2) (E σ)) :
    wpAny (model X.prog X.w) X.A (call (.ref C) us) (EP X pins σ Q) X.xe s := by
  obtain ⟨f, fd, hf, hb, F⟩ := O.ex
  have n1 : H (s.heap.objs.size + 1) = none := I.hok.fresh (Nat.le_succ _)
  have n2 : H s.heap.objs.size = none := I.hok.fresh (Nat.le_refl _)
  have q := h _ _ n1 n2 (Nat.ne_of_lt (Nat.lt_succ_self _))
  have J := Inv.made (C := C) I
  have r' : Vals (V.ref (s.heap.objs.size + 1) :: vs) (Value.ref (s.heap.objs.size + 1) :: us) := .cons rfl r
  have hl : (Value.ref (s.heap.objs.size + 1) :: us).length = ps.length := by rw [← r'.length]; exact F.len _ _ _ _ q
  have bt := hb _ (Value.ref (s.heap.objs.size + 1) :: us) J.kIn (by rw [List.append_nil]; exact hl)
  rw [List.append_nil] at bt
  refine wpAny_call (make_map (f := f) I.kIn hm hf.at_ (beq_iff_eq.mp hf.fn) (codeAny_mono (F.run _ X.stack _ _ ⟨Value.ref (s.heap.objs.size + 1) :: us, []⟩ _ (V.ref (s.heap.objs.size + 1) :: vs) _ (E σ) ((hr.mono hj).make C us [])
    (J.env0.make C us []) bt r' q) fun r s' hq' => ?_))
  match r, hq' with
  | .error e, hq' => exact hx pins _ _ e s' J hq'
  | .ok (.ret u), hq' =>
    obtain ⟨v, H', I3, rv, ev, q3⟩ := J.after hq'
    subst ev
    exact ⟨rv, ⟨V.ref (s.heap.objs.size + 1), H', I3, rfl, q3⟩⟩
  | .ok .next, hq' => exact hq'.elim
  | .ok .brk, hq' => exact hq'.elim
  | .ok .cont, hq' => exact hq'.elim
theorem pe_mak {K : PySem.W.Frag} {mg : Str → Option Value} {n : Str} {fds : List Str} (c : ClsAt K mg n fds) (O : OwnM X.prog X.w X.K X.mg X.base c.C "__init__" j ps sp) (hj : j + 1 ≤ k) (hr : Room k X.A) (hg : Gl X n) (hx : ∀ σ, PassesAt (L2N.CX X.prog X.w) X σ (E σ)) (ha : PA X (e :: es) t)
    (hdb : (n == ("__debug__" : Str)) = false := by decide) (h1 : starEach (e :: es) X.env = (false, eval e X.env) :: starEach es X.env := by rfl) (h2 : (backTo pos (starEach es X.env)).any (·.1) = false := by rfl) (hK : X.K = K := by rfl) (hmg : X.mg = mg := by rfl) :
    PE X (.Call (.Name n p) (e :: es) [] pos) (tMakS c.C sp E t) := by
  subst hK hmg
  exact ⟨fun pins s σ H Q I h => wpAny_Call_Name_kw (ld_glob I hg c.g (PySem.W.callWith_K (h₀ := X.base) I.ok.mod.kin c.kp (thn (ha.run pos pins s σ H _ I h) fun us s1 ⟨vs, H1, I1, r, q⟩ => ⟨I1.kIn, run_mak O hj c.mks hr (hx σ) I1 r q⟩) h1 h2) hdb)⟩
/-- C(), where there is no __init__ -/
def tMak0 (C : Addr) : TE := fun _ H Q => ∀ y dx, H y = none → H dx = none → dx ≠ y → Q (.ref y) (upd (upd H dx (.own y)) y (.ins C dx []))
/-- no __init__ but object's -/
theorem pe_mak0 {K : PySem.W.Frag} {mg : Str → Option Value} {n : Str} {fds : List Str} (c : ClsAt K mg n fds) (hi : PySem.W.findIn K (.ref c.C) "__init__" = some (some (.builtin "object.__init__"))) (hg : Gl X n)
    (hdb : (n == ("__debug__" : Str)) = false := by decide) (hK : X.K = K := by rfl) (hmg : X.mg = mg := by rfl) : PE X (.Call (.Name n p) [] [] pos) (tMak0 c.C) := by
  subst hK hmg
  refine ⟨fun pins s σ H Q I h => wpAny_Call_Name_kw (ld_glob I hg c.g (PySem.W.callWith_K0 I.kIn c.kp ?_) hdb)⟩
  have n1 : H (s.heap.objs.size + 1) = none := I.hok.fresh (Nat.le_succ _)
  have n2 : H s.heap.objs.size = none := I.hok.fresh (Nat.le_refl _)
  have q := h _ _ n1 n2 (Nat.ne_of_lt (Nat.lt_succ_self _))
  have J := Inv.made (C := c.C) I
  refine wpAny_call (make_map0 I.kIn c.mks hi (fun self => PySem.W.Looks.of_pure (PySem.W.oi_bind self)) ?_)
  have ho : ((s.heap.push PySem.W.emptyDict).push (PySem.W.instObj c.C s.heap.objs.size)).get? (s.heap.objs.size + 1) = some (PySem.W.instObj c.C s.heap.objs.size) := by
    have e : s.heap.objs.size + 1 = (s.heap.push PySem.W.emptyDict).objs.size := (Heap.size_push _ _).symm
    rw [e]; exact Heap.get?_push_size _ rfl
  have t1 : PySem.W.Looks (model X.prog X.w) ((s.heap.push PySem.W.emptyDict).push (PySem.W.instObj c.C s.heap.objs.size)) (typeOf (.ref (s.heap.objs.size + 1))) (.ref c.C) := (PySem.W.Looks.ld ho).andThen .now
  have t2 : PySem.W.Looks (model X.prog X.w) ((s.heap.push PySem.W.emptyDict).push (PySem.W.instObj c.C s.heap.objs.size)) (isInstance (.ref (s.heap.objs.size + 1)) (.type "object")) true := t1.andThen ((PySem.W.makes_of (M := model X.prog X.w) I.kIn c.mks).top.keeps fun b o e => Heap.get?_push_of_some _ (Heap.get?_push_of_some _ e))
  refine codeAny_call_builtin PySem.W.oi_plain PySem.W.entry_oi (@PySem.W.check_slot (model X.prog X.w) _ _ _ "object.__init__" "object" "__init__" (.ref (s.heap.objs.size + 1)) [] [] _ PySem.W.oi_kind PySem.W.oi_split t2 (PySem.W.oi_args _) ?_)
  rw [PySem.W.oi_run]
  exact wpAny_pure ⟨rfl, V.ref (s.heap.objs.size + 1), _, J, rfl, q⟩
end
section
variable {K : PySem.W.Frag} {mg : Str → Option Value} {H : Hp} {Q : VK} {σ : L2.St} {te ta tv : TE} {t : TA} {C a dx : Addr} {f m nm : Str} {fds : List Str} {fs : List (Str × V)} {v y : V} {E : L2.St → XK} {sp : Sp}
def FldR (K : PySem.W.Frag) (f : Str) (x : V) (H : Hp) (Q : VK) : Prop := ∃ a C dx fs v, x = .ref a ∧ H a = some (.ins C dx fs) ∧ L2.Cls K C ∧ NoAttr K C f ∧ fs.lookup f = some v ∧ Q v H
theorem v_fld (h : te σ H fun x H1 => FldR K f x H1 Q) : tFld K te f σ H Q := h
theorem v_fldE (c : ClsAt K mg nm fds) (h : H a = some (.ins c.C dx fs)) (hm : f ∈ fds) (l : fs.lookup f = some v) (q : Q v H) : FldR K f (.ref a) H Q := ⟨a, c.C, dx, fs, v, rfl, h, c.cl, c.na f hm, l, q⟩
def FldW (K : PySem.W.Frag) (f : Str) (x y : V) (H : Hp) (n : Hp → Prop) : Prop := ∃ a C dx fs, x = .ref a ∧ H a = some (.ins C dx fs) ∧ L2.Cls K C ∧ NoAttr K C f ∧ fs.length < 1000 ∧ n (upd H a (.ins C dx (putF f y fs)))
theorem v_fldS {n : L2.St → Hp → Prop} {r : VK} {b c : L2.St → Hp → Prop} (h : tv σ H fun y H1 => ta σ H1 fun x H2 => FldW K f x y H2 fun H3 => n σ H3) : sFld K ta tv f ⟨n, r, b, c⟩ σ H := h
theorem v_fldW {n : Hp → Prop} (c : ClsAt K mg nm fds) (h : H a = some (.ins c.C dx fs)) (hm : f ∈ fds) (hl : fs.length < 1000) (q : ∀ H', Chg [a] H H' → H' a = some (.ins c.C dx (putF f y fs)) → n H') : FldW K f (.ref a) y H n :=
  ⟨a, c.C, dx, fs, rfl, h, c.cl, c.na f hm, hl, q _ (Chg.set h (by intro _ z; cases z)) upd_same⟩
theorem v_met (h : te σ H fun x H1 => AtI C m x H1 (t σ H1 fun vs H2 => sp (x :: vs) H2 Q (E σ))) : tMetS C m sp E te t σ H Q := h
theorem v_ati {R : Prop} (h : H a = some (.ins C dx fs)) (l : fs.lookup m = none) (q : R) : AtI C m (.ref a) H R := ⟨a, dx, fs, rfl, h, l, q⟩
def MakR (C : Addr) (sp : Sp) (E : XK) (vs : List V) (H1 : Hp) (Q : VK) : Prop := ∀ y dx, H1 y = none → H1 dx = none → dx ≠ y → sp (.ref y :: vs) (upd (upd H1 dx (.own y)) y (.ins C dx [])) (fun v H2 => v = .non ∧ Q (.ref y) H2) E
theorem v_mak (h : t σ H fun vs H1 => MakR C sp (E σ) vs H1 Q) : tMakS C sp E t σ H Q := h
theorem v_makR {E : XK} {vs : List V} (h : ∀ y dx H', H y = none → Chg [] H H' → H' y = some (.ins C dx []) → sp (.ref y :: vs) H' (fun v H2 => v = .non ∧ Q (.ref y) H2) E) : MakR C sp E vs H Q := fun y dx hy hdx hne =>
  h y dx _ hy ((Chg.new hdx).trans (Chg.new (by rw [upd_ne (Ne.symm hne)]; exact hy))) upd_same
theorem v_mak0 (h : ∀ y dx H', H y = none → Chg [] H H' → H' y = some (.ins C dx []) → Q (.ref y) H') : tMak0 C σ H Q := fun y dx hy hdx hne =>
  h y dx _ hy ((Chg.new hdx).trans (Chg.new (by rw [upd_ne (Ne.symm hne)]; exact hy))) upd_same
end
/-! a walk along a tuple: its length is within the line -/
def ItVB (K : PySem.W.Frag) (x : V) (H1 : Hp) (R : It → Hp → Prop) : Prop :=
  ItV K x H1 R ∨ ∃ a, x = .ref a ∧ (∃ xs, SqT K H1 a xs) ∧ ((∀ xs, SqT K H1 a xs → xs.length ≤ sizeLine) → R (Itt K a) H1)
def uItB (K : PySem.W.Frag) (tl : TE) : TI := fun σ H R => tl σ H fun x H1 => ItVB K x H1 R
theorem pi_uB {X : Cx} {K : PySem.W.Frag} {tg l : Expr} {tl : TE} (hl : PE X l tl) (hK : X.K = K := by rfl) : PI X tg l (uItB K tl) := by
  subst hK
  refine ⟨fun pins s σ H R I h => thn (hl.run pins s σ H _ I h) fun v s1 ⟨x, H1, I1, r1, q1⟩ => ?_⟩
  rcases q1 with (⟨a, rfl, ⟨xs, hq⟩, q⟩ | ⟨a, rfl, ⟨xs, hq⟩, q⟩ | ⟨z, rfl, q⟩) | ⟨a, rfl, ⟨xs, hq⟩, q⟩
  · cases r1
    obtain ⟨its, _, lp, _⟩ := I1.list hq
    exact wpAny_pyIter_list lp.isList (pi_one (tk := s1.toks) I1 _ (turn_list a _) ⟨_, Heap.get?_push_size _ rfl, rfl, rfl⟩ q)
  · cases r1
    obtain ⟨its, _, tp, _⟩ := I1.tuple hq
    exact wpAny_pyIter_tuple (show s1.heap.IsTuple a its.toArray from tp) (pi_one (tk := s1.toks) I1 _ (turn_tuple a _) ⟨_, Heap.get?_push_size _ rfl, rfl, rfl⟩ q)
  · obtain ⟨t, rfl⟩ := r1
    cases ha : z.cps.all (· < 128)
    · exact wpAny_pyIter_wide ha (pi_one (tk := s1.toks) I1 _ (turn_str _ z t "str_iterator" (.inr rfl)) ⟨_, Heap.get?_push_size _ rfl, rfl, rfl⟩ q)
    · exact wpAny_pyIter_ascii ha (pi_one (tk := s1.toks) I1 _ (turn_str _ z t "str_ascii_iterator" (.inl rfl)) ⟨_, Heap.get?_push_size _ rfl, rfl, rfl⟩ q)
  · cases r1
    obtain ⟨its, _, tp, hz⟩ := I1.tuple hq
    exact wpAny_pyIter_tuple (show s1.heap.IsTuple a its.toArray from tp) (pi_one (tk := s1.toks) I1 _ (turn_tuple a _) ⟨_, Heap.get?_push_size _ rfl, rfl, rfl⟩ (q fun ys hy => by rw [I1.tuple_inj hy hq]; exact hz))
theorem v_itB {K : PySem.W.Frag} {te : TE} {σ : L2.St} {H : Hp} {R : It → Hp → Prop} (h : te σ H fun x H1 => ItVB K x H1 R) : uItB K te σ H R := h
theorem v_itB_t {K : PySem.W.Frag} {H : Hp} {R : It → Hp → Prop} {a : Addr} {xs : List V} (hl : SqT K H a xs) (h : xs.length ≤ sizeLine → R (Itt K a) H) : ItVB K (.ref a) H R := .inr ⟨a, rfl, ⟨xs, hl⟩, fun q => h (q xs hl)⟩
theorem v_itB_l {K : PySem.W.Frag} {H : Hp} {R : It → Hp → Prop} {a : Addr} {xs : List V} (hl : SqL K H a xs) (h : R (Itl K a) H) : ItVB K (.ref a) H R := .inl (.inl ⟨a, rfl, ⟨xs, hl⟩, h⟩)
theorem pe_fldU {X : Cx} {K : PySem.W.Frag} {e : Expr} {ta : TE} {f : Str} {pos : Pos} (ha : PE X e ta) (hK : X.K = K := by rfl) (hb : attributeBase e f X.env (eval e X.env) = eval e X.env := by rfl) : PE X (.Attribute e f pos) (tFld K ta f) := by
  subst hK
  exact pe_fld ha hb
theorem v_teJ {te : TE} {σ : L2.St} {H : Hp} {U : VK} (R : V → Hp → Prop) (k : ∀ x H, R x H → U x H) (h : ∀ U : VK, (∀ x H, R x H → U x H) → te σ H U) : te σ H U := h U k
theorem v_orL {t u : TE} {σ : L2.St} {H : Hp} {Q : VK} (h : t σ H Q) : tOr2 t u σ H Q := .inl h
theorem v_orR {t u : TE} {σ : L2.St} {H : Hp} {Q : VK} (h : u σ H Q) : tOr2 t u σ H Q := .inr h
/-! ## 31. the length of a set of texts -/
def rLenSet (w : World) : List V → Hp → VK → Prop := fun vs H Q => ∃ (a : Addr) (S : Str → Bool) (n : Nat), vs = [.ref a] ∧ H a = some (SetSO w a S n) ∧
  ((∃ ns : List Str, ns.Nodup ∧ (∀ k, k ∈ ns ↔ S k = true) ∧ ns.length = n) → Q (.int n) H)
theorem cr_lenSet {X : Cx} {w : World} (hw : X.w = w := by rfl) : CallR X (.builtin "len") (rLenSet w) := by
  subst hw
  intro pins s σ H xs us Q I r h
  obtain ⟨a, S, n, rfl, ha, q⟩ := h
  rw [Vals.ref1 r]
  obtain ⟨R, _, _⟩ := (show ObjOk X.prog X.w H s.heap a (SetSO X.w a S n) from I.hok a _ ha)
  obtain ⟨o, es, ep, t, ho, hex, hd, _, nd, hm, hb, hf, hn, _, _⟩ := R
  refine call_len_set ho hex hd hf (by unfold scanBound at hb; omega) ⟨.int n, H, I.tok _, ⟨_, by rw [hn]⟩, q ⟨_, nd, fun k => (hm k).symm, by rw [List.length_map, Array.length_toList]; exact hn⟩⟩
def uLenS (K : PySem.W.Frag) (w : World) : List V → Hp → VK → Prop := fun vs H Q => uLen K vs H Q ∨ rLenSet w vs H Q
theorem call_ulenS {X : Cx} {K : PySem.W.Frag} {w : World} (hK : X.K = K := by rfl) (hw : X.w = w := by rfl) : CallR X (.builtin "len") (uLenS K w) := by
  subst hK hw
  exact CallR.or call_ulen cr_lenSet
theorem perm_of_sub : ∀ {ns l : List Str}, ns.Nodup → (∀ k, k ∈ ns → k ∈ l) → l.length ≤ ns.length → ns.Perm l
  | [], l, _, _, h => by
    have : l = [] := List.length_eq_zero_iff.mp (by simpa using h)
    rw [this]
  | x :: ns, l, hd, hs, h => by
    rw [List.nodup_cons] at hd
    have hx := hs x List.mem_cons_self
    have p := List.perm_cons_erase hx
    refine (List.Perm.cons x (perm_of_sub hd.2 (fun k hk => ?_) ?_)).trans p.symm
    · exact (List.mem_erase_of_ne (by rintro rfl; exact hd.1 hk)).mpr (hs k (List.mem_cons_of_mem _ hk))
    · have := p.length_eq
      rw [List.length_cons] at this h
      omega
theorem nodup_len {ns l : List Str} (hd : ns.Nodup) (hm : ∀ k, k ∈ ns ↔ k ∈ l) : decide (l.length = ns.length) = decide l.Nodup := by
  refine decide_eq_decide.mpr ⟨fun h => ?_, fun h => ?_⟩
  · exact (perm_of_sub hd (fun k hk => (hm k).mp hk) (by omega)).nodup_iff.mp hd
  · exact (((List.perm_ext_iff_of_nodup hd h).mpr hm).length_eq).symm
section
variable {H : Hp} {Q : VK} {K : PySem.W.Frag} {w : World}
theorem v_lenS_l {a : Addr} {xs : List V} (h : SqL K H a xs) (q : Q (.int xs.length) H) : uLenS K w [.ref a] H Q := .inl (v_len_l h q)
theorem v_lenS_set {a : Addr} {S : Str → Bool} {n : Nat} (h : H a = some (SetSO w a S n)) (q : (∃ ns : List Str, ns.Nodup ∧ (∀ k, k ∈ ns ↔ S k = true) ∧ ns.length = n) → Q (.int n) H) : uLenS K w [.ref a] H Q := .inr ⟨a, S, n, rfl, h, q⟩
end
/-! dict(list of pairs) -/
def uDictL (K : PySem.W.Frag) : List V → Hp → VK → Prop := fun xs H Q => ∃ (a : Addr) (ps : List Addr) (kvs : List (Key × V)), xs = [.ref a] ∧ SqL K H a (ps.map V.ref) ∧ Paired (fun p kv => SqT K H p [kV kv.1, kv.2]) ps kvs ∧
  ∀ p, H p = none → Q (.ref p) (upd H p (.dK (mergeK [] kvs)))
theorem call_udictL {X : Cx} {K : PySem.W.Frag} (hcalm : X.calm = true) (hK : X.K = K := by rfl) : CallR X (.type "dict") (uDictL K) := by
  subst hK
  intro pins s σ H xs us Q I r q
  obtain ⟨a, ps, kvs, ex, hlst, hp, q⟩ := q
  subst ex
  obtain ⟨u, eu, rx⟩ := vals1 r
  subst eu
  cases rx
  obtain ⟨its, rv, ⟨o1, n1, l1, l2, l3, l4⟩, hz⟩ := I.list hlst
  have ei := refs_at rv
  subst ei
  rw [List.length_map] at hz
  obtain ⟨prs, rel, hl, hpr⟩ := pairs_of I hp
  let vps : List (Value × Value) := (List.range prs.length).map fun j => match prs[j]? with
    | some q => ((match ps[j]? with | some b => (match s.heap.get? b with | some ob => (match ob.data with | .seq ys _ => ys[0]?.getD .none | _ => .none) | none => .none) | none => .none), q.2)
    | none => (.none, .none)
  have hv : ∀ (j : Nat) (q : Key × Value), prs[j]? = some q → ∃ (b : Addr) (u : Value), ps[j]? = some b ∧ IsTup s.heap b #[u, q.2] ∧ keyIs q.1 u = true ∧ vps[j]? = some (u, q.2) := by
    intro j q e
    obtain ⟨b, u, e1, e2, e3⟩ := hpr j q e
    refine ⟨b, u, e1, e2, e3, ?_⟩
    have hj : j < prs.length := (List.getElem?_eq_some_iff.mp e).1
    show ((List.range prs.length).map _)[j]? = _
    rw [List.getElem?_map, List.getElem?_range hj]
    obtain ⟨ob, h1, h2, m, h3⟩ := e2
    simp only [Option.map_some, e, e1, h1, h3]
    rfl
  have hvl : vps.length = prs.length := by show ((List.range prs.length).map _).length = _; rw [List.length_map, List.length_range]
  let Ts : Nat → Addr := fun j => ps[j]?.getD 0
  refine PySem.call_dict_pairs (knd := mixKind X.prog X.w) (kvs := prs) (PairArg.list a (ps.map Value.ref).toArray Ts vps) (I.ok.hd hcalm) ⟨⟨o1, n1, l1, l2, l3, l4⟩, ?_, fun j k v hj => ?_⟩ ⟨hvl.symm, fun i key v hi => ?_⟩ (by rw [hvl, hl]; exact hz) fun h' tk hd' k => ?_
  · simp [hvl, hl]
  · have hj2 : j < prs.length := by rw [← hvl]; exact (List.getElem?_eq_some_iff.mp hj).1
    obtain ⟨q, hq⟩ : ∃ q, prs[j]? = some q := ⟨_, List.getElem?_eq_getElem hj2⟩
    obtain ⟨b, u, e1, e2, e3, e4⟩ := hv j q hq
    rw [e4] at hj
    cases hj
    have : Ts j = b := by show ps[j]?.getD 0 = b; rw [e1]; rfl
    refine ⟨by rw [this]; simp [e1], ?_⟩
    rw [this]
    exact .inl e2
  · have hj2 : i < prs.length := by rw [← hvl]; exact (List.getElem?_eq_some_iff.mp hi).1
    obtain ⟨q, hq⟩ : ∃ q, prs[i]? = some q := ⟨_, List.getElem?_eq_getElem hj2⟩
    obtain ⟨b, u, e1, e2, e3, e4⟩ := hv i q hq
    have hi' : vps[i]? = some (key, v) := hi
    rw [e4] at hi'
    cases hi'
    exact ⟨q.1, hq, e3⟩
  · have hm : (s.heap.objs.size == sysModules) = false := beq_eq_false_iff_ne.mpr (Nat.ne_of_gt I.big)
    have hlen : (mergeK [] kvs).length ≤ sizeLine := by
      refine Nat.le_trans (length_mergeK kvs []) ?_
      rw [List.length_nil, Nat.zero_add, rel.length, hl]
      exact hz
    exact ⟨.ref s.heap.objs.size, upd H s.heap.objs.size (.dK (mergeK [] kvs)), I.laid (t' := tk) (fun b o e => k b o (by simp) e) (Nat.le_refl _) (show ObjOk X.prog X.w _ _ _ (.dK (mergeK [] kvs)) from ⟨hlen, hm, merged [] prs, KV.merge rel .nil, hd'⟩), rfl, q _ (I.hok.fresh (Nat.le_refl _))⟩
theorem v_dictL {H : Hp} {Q : VK} {K : PySem.W.Frag} {a : Addr} {ps : List Addr} {kvs : List (Key × V)} (h1 : SqL K H a (ps.map V.ref)) (h2 : Paired (fun p (kv : Key × V) => SqT K H p [kV kv.1, kv.2]) ps kvs) (q : ∀ p H', H p = none → Chg [] H H' → H' p = some (.dK (mergeK [] kvs)) → Q (.ref p) H') : uDictL K [.ref a] H Q :=
  ⟨a, ps, kvs, rfl, h1, h2, fun p hp => q p _ hp (.new hp) upd_same⟩
theorem mergeK_nodup : ∀ (kvs acc : List (Key × V)), ((acc ++ kvs).map (·.1)).Nodup → mergeK acc kvs = acc ++ kvs
  | [], acc, _ => by rw [List.append_nil]; rfl
  | q :: kvs, acc, h => by
    have hn : valV acc q.1 = none := by
      unfold valV
      rw [Option.map_eq_none_iff, List.find?_eq_none]
      intro p hp e
      rw [decide_eq_true_eq] at e
      rw [List.map_append, List.nodup_append] at h
      exact h.2.2 p.1 (List.mem_map.mpr ⟨p, hp, rfl⟩) q.1 (List.mem_map.mpr ⟨q, List.mem_cons_self, rfl⟩) e
    have e1 : mergeK acc (q :: kvs) = mergeK (acc ++ [q]) kvs := by
      show mergeK (putK acc q.1 q.2) kvs = _
      rw [putK_new q.2 hn]
    rw [e1, mergeK_nodup kvs (acc ++ [q]) (by rw [List.append_assoc]; exact h), List.append_assoc]; rfl
end RT

namespace RT
open PySem PySem.Spec PyProof.Rows L2
/-! ## 31. texts and tuples told many times -/
def rRepS : R2 := fun x y H Q => ∃ z k, x = .str z ∧ y = .int k ∧ 1 ≤ k ∧ k ≤ 1000 ∧ z.length ≤ 1000 ∧ Q (.str (Txt.mul z k)) H
def rRep1 (K : PySem.W.Frag) : R2 := fun x y H Q => ∃ l xs, x = .ref l ∧ y = .int 1 ∧ SqT K H l xs ∧ Q (.ref l) H
theorem op_repS {X : Cx} : OpR X (binaryOp .Mult) rRepS := by
  intro pins s σ H x y v u Q I rx ry h
  obtain ⟨z, k, rfl, rfl, h1, h2, hz, q⟩ := h
  obtain ⟨t, rfl⟩ := rx
  obtain ⟨t', rfl⟩ := ry
  have hm : z.length * k.toNat ≤ 1000 * 1000 := Nat.mul_le_mul hz (by omega)
  refine SB.mul ⟨?_, fun _ _ => ?_, fun _ _ => ?_⟩ fun t2 k2 => ⟨.str (Txt.mul z k), H, I.tok _, ⟨_, rfl⟩, q⟩
  · rw [decide_eq_false (by omega), decide_eq_false (by omega)]; rfl
  · have a : (1000000 : Int) ≤ (2 ^ 63 - 1) / k := by
      rw [Int.le_ediv_iff_mul_le (by omega)]
      have : (1000000 : Int) * k ≤ 1000000 * 1000 := Int.mul_le_mul_of_nonneg_left h2 (by omega)
      omega
    omega
  · unfold Builtin.Str.tooLong
    rw [sizeLine_eq]
    exact decide_eq_false (by omega)
theorem tuple_mul1 (l : Addr) (items : Array Value) (n : Nat) (sl : Array (Option Value)) (dd : Option Addr) (u : Tok) : Meets (Builtin.«tuple.__mul__» ⟨[.ref l, .int 1 u], []⟩) (fun _ R s => s.heap.get? l = some { cls := .type "tuple", dict := dd, data := .seq items n, slots := sl } ∧ R (.ok (.ret (Value.ref l))) s) :=
  .of_wp fun prog w A R s h => by
    obtain ⟨hp, g, d, tk, os⟩ := s
    obtain ⟨hl, h⟩ := h
    have f1 := AutoSeq1.idx_int
    have c0 : (decide ((1 : Int) < -(2 ^ 63)) || decide ((1 : Int) ≥ 2 ^ 63)) = false := by decide
    have c1 : (items.isEmpty || (1 : Int) == 1) = true := by simp
    wp_walk using wpAny_loadPart' hl
    repeat (first
      | (refine wpAny_ite_false (decide_eq_false (by rw [c0]; exact Bool.false_ne_true)) ?_; wp_walk using wpAny_loadPart' hl)
      | (refine wpAny_ite_true (decide_eq_true (by rw [c1])) ?_; wp_walk using wpAny_loadPart' hl))
    exact ⟨_, rfl, h⟩
theorem op_rep1 {X : Cx} : OpR X (binaryOp .Mult) (rRep1 X.K) := by
  intro pins s σ H x y v u Q I rx ry h
  obtain ⟨l, xs, rfl, rfl, hT, q⟩ := h
  cases rx
  obtain ⟨t, rfl⟩ := ry
  obtain ⟨its, r, ⟨⟨cls, dd, data, sl⟩, ho, hc, n, hd⟩, hs⟩ := I.tuple hT
  simp only at hc hd
  subst hc hd
  refine wpAny_binaryOp_repeat_ref (T := "tuple") (U := "int") (by decide) ⟨_, ho, rfl⟩ (fun s' => typeIs_int s' 1 t) noFill_tuple_mul F.fills_int_mul F.slot_int_rmul repeat_tuple F.slot_int_index.lookup
    (call_meets F.slot_int_rmul (typeIs_int s 1 t) F.entry_int_rmul (F.args_int_rmul_2 _ _) (int_rmul_tuple 1 t l its.toArray n dd sl)
      ⟨ho, rfl, ⟨_, ho, rfl⟩, call_meets F.slot_tuple_mul ⟨_, ho, rfl⟩ F.entry_tuple_mul (F.args_tuple_mul_2 _ _) (tuple_mul1 l its.toArray n sl dd t) ⟨ho, ?_⟩⟩)
  exact ⟨.ref l, H, I, rfl, q⟩
theorem tuple_mul0 (l : Addr) (items : Array Value) (n : Nat) (sl : Array (Option Value)) (dd : Option Addr) (u : Tok) (hi : items.isEmpty = false) : Meets (Builtin.«tuple.__mul__» ⟨[.ref l, .int 0 u], []⟩) (fun _ R s => s.heap.get? l = some { cls := .type "tuple", dict := dd, data := .seq items n, slots := sl } ∧
    R (.ok (.ret (Value.ref s.heap.objs.size))) { s with heap := s.heap.push { cls := Value.type "tuple", data := Data.seq #[] }, toks := s.toks }) :=
  .of_wp fun prog w A R s h => by
    obtain ⟨hp, g, d, tk, os⟩ := s
    obtain ⟨hl, h⟩ := h
    have f1 := AutoSeq1.idx_int
    have c0 : (decide ((0 : Int) < -(2 ^ 63)) || decide ((0 : Int) ≥ 2 ^ 63)) = false := by decide
    have c1 : (items.isEmpty || (0 : Int) == 1) = false := by rw [hi]; rfl
    have c2 : (decide ((0 : Int) ≤ 0) || items.isEmpty) = true := rfl
    wp_walk using wpAny_loadPart' hl
    repeat (first
      | (refine wpAny_ite_false (decide_eq_false (by rw [c0]; exact Bool.false_ne_true)) ?_; wp_walk using wpAny_loadPart' hl)
      | (refine wpAny_ite_false (decide_eq_false (by rw [c1]; exact Bool.false_ne_true)) ?_; wp_walk using wpAny_loadPart' hl)
      | (refine wpAny_ite_true (decide_eq_true (by rw [c2])) ?_; wp_walk using wpAny_loadPart' hl)
      | (refine wpAny_ite_false (decide_eq_false (Nat.not_lt.mpr (Nat.zero_le sizeLine))) ?_; wp_walk using wpAny_loadPart' hl))
    exact ⟨_, rfl, h⟩
def rRep0 (K : PySem.W.Frag) : R2 := fun x y H Q => ∃ l xs, x = .ref l ∧ y = .int 0 ∧ SqT K H l xs ∧ xs ≠ [] ∧ ∀ p, H p = none → Q (.ref p) (upd H p (.tup []))
theorem op_rep0 {X : Cx} : OpR X (binaryOp .Mult) (rRep0 X.K) := by
  intro pins s σ H x y v u Q I rx ry h
  obtain ⟨l, xs, rfl, rfl, hT, hne, q⟩ := h
  cases rx
  obtain ⟨t, rfl⟩ := ry
  obtain ⟨its, r, ⟨⟨cls, dd, data, sl⟩, ho, hc, n, hd⟩, hs⟩ := I.tuple hT
  simp only at hc hd
  subst hc hd
  have hi : its.toArray.isEmpty = false := by
    cases its with
    | nil => exact absurd (List.eq_nil_of_length_eq_zero (r.length.trans rfl)) hne
    | cons a b => rfl
  refine wpAny_binaryOp_repeat_ref (T := "tuple") (U := "int") (by decide) ⟨_, ho, rfl⟩ (fun s' => typeIs_int s' 0 t) noFill_tuple_mul F.fills_int_mul F.slot_int_rmul repeat_tuple F.slot_int_index.lookup
    (call_meets F.slot_int_rmul (typeIs_int s 0 t) F.entry_int_rmul (F.args_int_rmul_2 _ _) (int_rmul_tuple 0 t l its.toArray n dd sl)
      ⟨ho, rfl, ⟨_, ho, rfl⟩, call_meets F.slot_tuple_mul ⟨_, ho, rfl⟩ F.entry_tuple_mul (F.args_tuple_mul_2 _ _) (tuple_mul0 l its.toArray n sl dd t hi) ⟨ho, ?_⟩⟩)
  refine ⟨.ref s.heap.objs.size, _, I.laid (t' := s.toks) (o := .tup []) (fun b ob q => Heap.get?_push_of_some _ q) (Nat.le_refl _) ?_, rfl, q _ (I.hok.fresh (Nat.le_refl _))⟩
  exact ⟨Nat.zero_le _, _, .nil, IsTup.new _ _⟩
def uMulT (K : PySem.W.Frag) : R2 := fun x y H Q => (uMul x y H Q ∨ rRepS x y H Q) ∨ (rRepT K x y H Q ∨ (rRep1 K x y H Q ∨ rRep0 K x y H Q))
theorem op_umulT {X : Cx} {K : PySem.W.Frag} (hK : X.K = K := by rfl) : OpR X (binaryOp .Mult) (uMulT K) := by
  subst hK
  exact OpR.or (OpR.or op_umul op_repS) (OpR.or op_repT (OpR.or op_rep1 op_rep0))
section
variable {H : Hp} {Q : VK} {K : PySem.W.Frag}
theorem v_mulT_ii {i j : Int} (hc : CMul i j) (q : Q (.int (i * j)) H) : uMulT K (.int i) (.int j) H Q := .inl (.inl (v_mul_ii hc q))
theorem v_mulT_l {a : Addr} {xs : List V} {k : Nat} (h : H a = some (.lst xs)) (hk : k ≤ 1000) (hl : xs.length * k ≤ 10000)
    (q : ∀ p H', H p = none → Chg [] H H' → H' p = some (.lst (List.replicate k xs).flatten) → Q (.ref p) H') : uMulT K (.ref a) (.int k) H Q := .inl (.inl (v_mul_l h hk hl q))
theorem v_mulT_s {z : Str} {k : Nat} (h1 : 1 ≤ k) (h2 : k ≤ 1000) (hz : z.length ≤ 1000) (q : Q (.str (Txt.mul z k)) H) : uMulT K (.str z) (.int k) H Q :=
  .inl (.inr ⟨z, k, rfl, rfl, by omega, by omega, hz, q⟩)
/-- a tuple of one, none or one time -/
theorem v_mulT_01 {a : Addr} {x : V} {k : Int} (h : H a = some (.tup [x])) (hk : k = 0 ∨ k = 1)
    (q : ∀ p H' ys, Chg [] H H' → H' p = some (.tup ys) → (ys = [] ∧ k = 0 ∨ ys = [x] ∧ k = 1) → Q (.ref p) H') : uMulT K (.ref a) (.int k) H Q := by
  rcases hk with rfl | rfl
  · exact .inr (.inr (.inr ⟨a, [x], rfl, rfl, SqT.of h, by simp, fun p hp => q p _ [] (.new hp) upd_same (.inl ⟨rfl, rfl⟩)⟩))
  · exact .inr (.inr (.inl ⟨a, [x], rfl, rfl, SqT.of h, q a H [x] .refl h (.inr ⟨rfl, rfl⟩)⟩))
theorem v_mulT_t {a : Addr} {x : V} {k : Nat} (h : H a = some (.tup [x])) (h1 : 1 ≤ k) (h2 : k ≤ 1000)
    (q : ∀ p H', Chg [] H H' → H' p = some (.tup (List.replicate k x)) → Q (.ref p) H') : uMulT K (.ref a) (.int k) H Q := by
  by_cases hk : k = 1
  · subst hk
    exact .inr (.inr (.inl ⟨a, [x], rfl, rfl, SqT.of h, q a H .refl h⟩))
  · refine .inr (.inl ⟨a, k, [x], rfl, rfl, SqT.of h, by simp, by omega, by omega, by simp, fun p hp => q p _ (.new hp) ?_⟩)
    rw [Int.toNat_natCast, upd_same]
    congr 2
    clear q h hk h1 h2
    induction k with
    | zero => rfl
    | succ k ih => rw [List.replicate_succ, List.replicate_succ, List.flatten_cons, ih]; rfl
end
end RT

namespace Cl
open PySem PySem.Spec PyProof.Rows L2 RT
local macro_rules | `(tactic| walk_at "v0") => `(tactic| first
  | with_reducible refine v_seq ?_
  | with_reducible refine v_next ?_
  | with_reducible refine v_asg ?_
  | with_reducible refine v_name ?_
  | with_reducible refine v_gcons ?_
  | with_reducible refine v_gnil ?_
  | ((with_reducible refine' v_var ?h ?_); case h => exact rfl)
  | with_reducible refine v_c ?_
  | with_reducible refine v_op ?_
  | with_reducible refine v_un ?_
  | with_reducible refine v_cons ?_
  | with_reducible refine v_nil ?_
  | with_reducible refine v_ret ?_
  | with_reducible refine v_drop ?_
  | with_reducible refine v_test ?_
  | with_reducible refine v_isb ?_
  | with_reducible refine v_tru ?_
  | with_reducible refine v_tru_b ?_
  | with_reducible refine v_tru_i ?_
  | with_reducible refine v_tru_n ?_
  | with_reducible refine v_and ?_
  | with_reducible refine v_or ?_
  | with_reducible refine v_not ?_
  | with_reducible refine v_notU ?_
  | with_reducible refine v_notX ?_
  | with_reducible refine v_andV ?_
  | with_reducible refine v_orV ?_
  | with_reducible refine v_ifE ?_
  | with_reducible refine v_chain ?_
  | with_reducible refine v_callS ?_
  | with_reducible refine v_call ?_
  | with_reducible refine v_cb ?_
  | with_reducible refine v_bm ?_
  | with_reducible refine v_bm0 ?_
  | with_reducible refine v_bms ?_
  | with_reducible refine v_lst ?_
  | with_reducible refine v_tup ?_
  | with_reducible refine v_iteT ?_
  | with_reducible refine v_iteF ?_
  | with_reducible refine v_iteNT ?_
  | with_reducible refine v_iteNF ?_
  | with_reducible refine v_rI0 ?_
  | ((with_reducible refine' v_rI ?h ?_); case h => first | omega | (with_reducible decide) | (refine ⟨?_, ?_⟩ <;> omega) | (unfold CDiv; omega) | (unfold CMul; omega) | (unfold CPow; omega))
  | with_reducible refine v_rU ?_
  | with_reducible refine v_add_ii ?_
  | ((with_reducible refine' v_mul_ii ?h ?_); case h => (unfold CMul; omega))
  | with_reducible refine v_eq_ii ?_
  | with_reducible refine v_ne_ii ?_
  | with_reducible refine v_eq_ss ?_
  | with_reducible refine v_ne_ss ?_
  | with_reducible refine v_lt_ii ?_
  | with_reducible refine v_eq_bb ?_
  | with_reducible refine v_ne_bb ?_
  | with_reducible refine v_bits ?_
  | with_reducible refine v_pcons ?_
  | with_reducible refine v_pnil ?_
  | with_reducible refine v_ipI ?_
  | ((with_reducible refine' v_aug ?h ?_); case h => exact rfl)
  | with_reducible refine v_raise ?_
  | with_reducible refine v_isi_i_int ?_
  | with_reducible refine v_isi_i_bool ?_
  | with_reducible refine v_isi_i_str ?_
  | with_reducible refine v_isi_i_tuple ?_
  | with_reducible refine v_isi_i_list ?_
  | with_reducible refine v_isi_i_dict ?_
  | with_reducible refine v_isi_b_int ?_
  | with_reducible refine v_isi_b_bool ?_
  | with_reducible refine v_isi_b_str ?_
  | with_reducible refine v_isi_b_tuple ?_
  | with_reducible refine v_isi_b_list ?_
  | with_reducible refine v_isi_b_dict ?_
  | with_reducible refine v_isi_s_int ?_
  | with_reducible refine v_isi_s_bool ?_
  | with_reducible refine v_isi_s_str ?_
  | with_reducible refine v_isi_s_tuple ?_
  | with_reducible refine v_isi_s_list ?_
  | with_reducible refine v_isi_s_dict ?_
  | with_reducible refine v_isi_n_int ?_
  | with_reducible refine v_isi_n_bool ?_
  | with_reducible refine v_isi_n_str ?_
  | with_reducible refine v_isi_n_tuple ?_
  | with_reducible refine v_isi_n_list ?_
  | with_reducible refine v_isi_n_dict ?_
  | ((with_reducible refine' v_isi_flat ?h ?g ?_); (case h => first | assumption | exact rfl); (case g => simp [sixT]))
  | with_reducible refine v_sl ?_
  | with_reducible refine v_nopart ?_
  | with_reducible refine v_part ?_
  | with_reducible refine v_isi ?_
  | with_reducible refine v_max2 ?_
  | with_reducible refine v_min2 ?_
  | with_reducible refine v_int_i ?_
  | with_reducible refine v_int_b ?_
  | with_reducible refine v_retN ?_
  | with_reducible refine v_for ?_
  | with_reducible refine v_rng1 ?_
  | with_reducible refine v_rng2 ?_
  | with_reducible refine v_rng3 ?_
  | with_reducible refine v_it ?_
  | with_reducible refine v_itH ?_
  | with_reducible refine v_enumS ?_
  | with_reducible refine v_zipB ?_
  | with_reducible refine v_lc ?_
  | with_reducible refine v_lcR ?_
  | with_reducible refine v_sub ?_
  | with_reducible refine v_orT ?_
  | with_reducible refine v_revT ?_
  | with_reducible refine v_tupF ?_
  | with_reducible refine v_exc ?_
  | with_reducible refine v_dget2 ?_
  | with_reducible refine v_yes ?_
  | with_reducible refine v_itB ?_
  | with_reducible refine v_fld ?_
  | with_reducible refine v_fldS ?_
  | with_reducible refine v_met ?_
  | with_reducible refine v_mak ?_
  | with_reducible refine v_break ?_
  | with_reducible refine v_cont ?_)
local macro_rules | `(tactic| walk_at "v") => `(tactic| first | walk_at "v0" | with_reducible refine v_ifs ?_)
local macro_rules | `(tactic| walk_at "vp") => `(tactic| repeat (walk_at "v0"))
local macro_rules | `(tactic| walk_at "vs") => `(tactic| repeat (walk_at "v"))
local macro_rules | `(tactic| walk_at "vi") => `(tactic| first
  | with_reducible refine v_iteD (fun _ => ?_) (fun _ => ?_)
  | with_reducible refine v_iteN (fun _ => ?_) (fun _ => ?_)
  | with_reducible refine v_iteNB (fun _ => ?_) (fun _ => ?_)
  | with_reducible refine v_iteB (fun _ => ?_) (fun _ => ?_))
local macro_rules | `(tactic| walk_at "vx") => `(tactic| repeat' (first | walk_at "v" | walk_at "vi"))

def topS (i : Nat) : Stmt := PySem.Challenge.pw_retrace_k05_whole_bounds.main.body.getD i (.Pass ⟨0, 0, 0, 0⟩)
structure Txt (K : PySem.W.Frag) (mg : Str → Option Value) : Type where
  n_isinstance : mg "isinstance" = none
  n_str : mg "str" = none
  n_len : mg "len" = none
  c_LONGEST_NAME : ConAt mg "LONGEST_NAME" (.int 6)
  c_LETTERS : ConAt mg "LETTERS" (.str "abcdefghijklmnopqrstuvwxyz")
  n_int : mg "int" = none
  n_bool : mg "bool" = none
  c_GREATEST : ConAt mg "GREATEST" (.int 999999)
  n_tuple : mg "tuple" = none
  c_DEEPEST_values : ConAt mg "DEEPEST_values" (.int 4)
  n_list : mg "list" = none
  n_all : mg "all" = none
  n_zip : mg "zip" = none
  c_DEEPEST_programs : ConAt mg "DEEPEST_programs" (.int 5)
  n_set : mg "set" = none
  c_MOST_BOXES : ConAt mg "MOST_BOXES" (.int 6)
  c_MOST_LISTS : ConAt mg "MOST_LISTS" (.int 3)
  c_MOST_THINGS : ConAt mg "MOST_THINGS" (.int 12)
  c_MOST_NAMES : ConAt mg "MOST_NAMES" (.int 3)
  c_MOST_FUNCTIONS : ConAt mg "MOST_FUNCTIONS" (.int 4)
  n_dict : mg "dict" = none
  c_MOST_ROWS : ConAt mg "MOST_ROWS" (.int 60)
  n_ValueError : mg "ValueError" = none
  n_range : mg "range" = none
  k_BoxPart : ClsAt K mg "BoxPart" []
  k_ListPart : ClsAt K mg "ListPart" []
  k_DoorPart : ClsAt K mg "DoorPart" []
  k_FunctionPart : ClsAt K mg "FunctionPart" []
  k_ValuePart : ClsAt K mg "ValuePart" []
  k_ValuesPart : ClsAt K mg "ValuesPart" []
  k_RowsPart : ClsAt K mg "RowsPart" []
  k_Scope : ClsAt K mg "Scope" ["boxes", "lists", "functions", "inside"]
  oi_ValuePart : PySem.W.findIn K (.ref k_ValuePart.C) "__init__" = some (some (.builtin "object.__init__"))
  oi_BoxPart : PySem.W.findIn K (.ref k_BoxPart.C) "__init__" = some (some (.builtin "object.__init__"))
  oi_ListPart : PySem.W.findIn K (.ref k_ListPart.C) "__init__" = some (some (.builtin "object.__init__"))
  oi_DoorPart : PySem.W.findIn K (.ref k_DoorPart.C) "__init__" = some (some (.builtin "object.__init__"))
  oi_FunctionPart : PySem.W.findIn K (.ref k_FunctionPart.C) "__init__" = some (some (.builtin "object.__init__"))
  oi_ValuesPart : PySem.W.findIn K (.ref k_ValuesPart.C) "__init__" = some (some (.builtin "object.__init__"))
  oi_RowsPart : PySem.W.findIn K (.ref k_RowsPart.C) "__init__" = some (some (.builtin "object.__init__"))
  m_Scope___init__ : MetAt K k_Scope.C "__init__" "Scope.__init__" (inClass (topS 35) 0)
  m_BoxPart_fits : MetAt K k_BoxPart.C "fits" "BoxPart.fits" (inClass (topS 37) 0)
  m_ListPart_fits : MetAt K k_ListPart.C "fits" "ListPart.fits" (inClass (topS 38) 0)
  m_DoorPart_fits : MetAt K k_DoorPart.C "fits" "DoorPart.fits" (inClass (topS 39) 0)
  m_FunctionPart_fits : MetAt K k_FunctionPart.C "fits" "FunctionPart.fits" (inClass (topS 40) 0)
  m_ValuePart_fits : MetAt K k_ValuePart.C "fits" "ValuePart.fits" (inClass (topS 41) 0)
  m_ValuesPart_fits : MetAt K k_ValuesPart.C "fits" "ValuesPart.fits" (inClass (topS 42) 0)
  m_RowsPart_fits : MetAt K k_RowsPart.C "fits" "RowsPart.fits" (inClass (topS 43) 0)
  x_NoRow : ExcAt K mg "NoRow"
  x_NoProgram : ExcAt K mg "NoProgram"
  x_TooLong : ExcAt K mg "TooLong"
  x_NoWorld : ExcAt K mg "NoWorld"
  x_NoText : ExcAt K mg "NoText"
  x_NoStep : ExcAt K mg "NoStep"
  x_NoCell : ExcAt K mg "NoCell"
  x_NoDoor : ExcAt K mg "NoDoor"
  x_NoWord : ExcAt K mg "NoWord"
  x_RunError : ExcAt K mg "RunError"
  kit_NoProgram__NoProgram : PySem.W.kitOne K (.ref x_NoProgram.C) (.ref x_NoProgram.C) = some true
  kit_NoProgram__NoRow : PySem.W.kitOne K (.ref x_NoProgram.C) (.ref x_NoRow.C) = some false
  kit_NoProgram__TooLong : PySem.W.kitOne K (.ref x_NoProgram.C) (.ref x_TooLong.C) = some false
  kit_NoProgram__NoWorld : PySem.W.kitOne K (.ref x_NoProgram.C) (.ref x_NoWorld.C) = some false
  kit_NoProgram__NoText : PySem.W.kitOne K (.ref x_NoProgram.C) (.ref x_NoText.C) = some false
  kit_NoProgram__NoStep : PySem.W.kitOne K (.ref x_NoProgram.C) (.ref x_NoStep.C) = some false
  kit_NoProgram__NoCell : PySem.W.kitOne K (.ref x_NoProgram.C) (.ref x_NoCell.C) = some false
  kit_NoProgram__NoDoor : PySem.W.kitOne K (.ref x_NoProgram.C) (.ref x_NoDoor.C) = some false
  kit_NoProgram__NoWord : PySem.W.kitOne K (.ref x_NoProgram.C) (.ref x_NoWord.C) = some false
  kit_NoRow__NoProgram : PySem.W.kitOne K (.ref x_NoRow.C) (.ref x_NoProgram.C) = some false
  kit_NoRow__NoRow : PySem.W.kitOne K (.ref x_NoRow.C) (.ref x_NoRow.C) = some true
  kit_NoRow__TooLong : PySem.W.kitOne K (.ref x_NoRow.C) (.ref x_TooLong.C) = some false
  kit_NoRow__NoWorld : PySem.W.kitOne K (.ref x_NoRow.C) (.ref x_NoWorld.C) = some false
  kit_NoRow__NoText : PySem.W.kitOne K (.ref x_NoRow.C) (.ref x_NoText.C) = some false
  kit_NoRow__NoStep : PySem.W.kitOne K (.ref x_NoRow.C) (.ref x_NoStep.C) = some false
  kit_NoRow__NoCell : PySem.W.kitOne K (.ref x_NoRow.C) (.ref x_NoCell.C) = some false
  kit_NoRow__NoDoor : PySem.W.kitOne K (.ref x_NoRow.C) (.ref x_NoDoor.C) = some false
  kit_NoRow__NoWord : PySem.W.kitOne K (.ref x_NoRow.C) (.ref x_NoWord.C) = some false
  kit_TooLong__NoProgram : PySem.W.kitOne K (.ref x_TooLong.C) (.ref x_NoProgram.C) = some false
  kit_TooLong__NoRow : PySem.W.kitOne K (.ref x_TooLong.C) (.ref x_NoRow.C) = some false
  kit_TooLong__TooLong : PySem.W.kitOne K (.ref x_TooLong.C) (.ref x_TooLong.C) = some true
  kit_TooLong__NoWorld : PySem.W.kitOne K (.ref x_TooLong.C) (.ref x_NoWorld.C) = some false
  kit_TooLong__NoText : PySem.W.kitOne K (.ref x_TooLong.C) (.ref x_NoText.C) = some false
  kit_TooLong__NoStep : PySem.W.kitOne K (.ref x_TooLong.C) (.ref x_NoStep.C) = some false
  kit_TooLong__NoCell : PySem.W.kitOne K (.ref x_TooLong.C) (.ref x_NoCell.C) = some false
  kit_TooLong__NoDoor : PySem.W.kitOne K (.ref x_TooLong.C) (.ref x_NoDoor.C) = some false
  kit_TooLong__NoWord : PySem.W.kitOne K (.ref x_TooLong.C) (.ref x_NoWord.C) = some false
  kit_NoProgram_T_ValueError : PySem.W.kitOne K (.ref x_NoProgram.C) (.type "ValueError") = some true
  kit_NoRow_T_ValueError : PySem.W.kitOne K (.ref x_NoRow.C) (.type "ValueError") = some true
  kit_TooLong_T_ValueError : PySem.W.kitOne K (.ref x_TooLong.C) (.type "ValueError") = some true
  exm_NoProgram__RunError : PySem.W.exmOne K (.ref x_NoProgram.C) (.ref x_RunError.C) = some true
  exm_NoRow__RunError : PySem.W.exmOne K (.ref x_NoRow.C) (.ref x_RunError.C) = some true
  exm_TooLong__RunError : PySem.W.exmOne K (.ref x_TooLong.C) (.ref x_RunError.C) = some true
/-! ### the law's drawing -/
theorem line9 {n : Nat} (h : n ≤ 10000) : n ≤ sizeLine := by rw [sizeLine_eq]; omega
theorem line9' {n : Nat} (h : n ≤ 10000) : n < sizeLine := by rw [sizeLine_eq]; omega
def StAt (H : Hp) (st : Addr) : Prop := ∃ z : Int, H st = some (.lst [.int z]) ∧ 0 ≤ z ∧ z < 2147483629
theorem StAt.on {S : List Addr} {H H' : Hp} {st : Addr} (h : StAt H st) (c : Chg S H H') (n : st ∉ S) : StAt H' st := by
  obtain ⟨z, e, h1, h2⟩ := h
  exact ⟨z, c.keep e n, h1, h2⟩
theorem StAt.on0 {H H' : Hp} {st : Addr} (h : StAt H st) (c : Chg [] H H') : StAt H' st := h.on c (by simp)
theorem isNm_ok {z : Str} (h : isNm z = true) : PyData.strOk z = true := by
  simp only [isNm, Bool.and_eq_true, decide_eq_true_eq, List.all_eq_true] at h
  unfold PyData.strOk
  rw [← Array.all_toList, List.all_eq_true]
  intro c hc
  have := (h.2 c hc).2
  exact decide_eq_true (by omega)
theorem isNm_len {z : Str} (h : isNm z = true) : 1 ≤ z.length ∧ z.length ≤ 6 := by
  simp only [isNm, Bool.and_eq_true, decide_eq_true_eq] at h
  exact h.1
theorem abc_at : ∀ n : Fin 26, (Str.ofString "abcdefghijklmnopqrstuvwxyz").cps.toList[n.val]? = some (97 + n.val) := by decide +kernel
theorem abc_len : (Str.ofString "abcdefghijklmnopqrstuvwxyz").cps.toList.length = 26 := by decide +kernel
theorem abc_ix {i : Int} (h0 : 0 ≤ i) (h1 : i < 26) : atI (Str.ofString "abcdefghijklmnopqrstuvwxyz").cps.toList i = some (97 + i.toNat) := by
  have := abc_at ⟨i.toNat, by omega⟩
  unfold atI ixN
  rw [abc_len, if_pos h0, if_pos (by exact_mod_cast h1)]
  exact this
theorem abc_line : (Str.ofString "abcdefghijklmnopqrstuvwxyz").length ≤ sizeLine := line9 (by
  have : (Str.ofString "abcdefghijklmnopqrstuvwxyz").length = 26 := abc_len
  omega)
theorem isNm_one {c : Nat} (h0 : 97 ≤ c) (h1 : c ≤ 122) : isNm ⟨#[c]⟩ = true := by
  simp [isNm, Str.length, h0, h1]
theorem str1_inj {c d : Nat} (h : (⟨#[c]⟩ : Str) = ⟨#[d]⟩) : c = d := by
  have := congrArg (fun z : Str => z.cps.toList) h
  simpa using this
/-! promises -/
def sp_cell (K : PySem.W.Frag) : Sp := fun vs H Q _ => ∃ a ns k, vs = [.ref a, .int k] ∧ SqL K H a (List.map V.int ns) ∧ ns.length ≤ 63 ∧ 0 ≤ k ∧ ∀ i, Q (.int i) H
def sp_state : Sp := fun vs H Q _ => ∃ c k, vs = [.int c, .int k] ∧ ∀ st H', H st = none → Chg [] H H' → StAt H' st → Q (.ref st) H'
def sp_next : Sp := fun vs H Q _ => ∃ st n, vs = [.ref st, .int n] ∧ StAt H st ∧ 1 ≤ n ∧ ∀ i H', 0 ≤ i → i < n → Chg [st] H H' → StAt H' st → Q (.int i) H'
def sp_names : Sp := fun vs H Q _ => ∃ st n, vs = [.ref st, .int n] ∧ StAt H st ∧ 0 ≤ n ∧ n ≤ 26 ∧
  ∀ (a : Addr) (zs : List Str) H', H a = none → Chg [st] H H' → StAt H' st → H' a = some (.lst (zs.map V.str)) → (zs.length : Int) = n → (∀ z ∈ zs, isNm z = true) → zs.Nodup → Q (.ref a) H'
theorem StAt.ne_strs {H : Hp} {st b : Addr} {zs : List Str} (h : StAt H st) (hb : H b = some (.lst (zs.map V.str))) : b ≠ st := by
  rintro rfl
  obtain ⟨z, e, _⟩ := h
  rw [hb] at e
  cases zs with
  | nil => cases e
  | cons y zs => cases e
def sp_law (K : PySem.W.Frag) : Sp := fun vs H Q _ => ∃ a ns, vs = [.ref a] ∧ SqL K H a (List.map V.int ns) ∧ ns.length ≤ 63 ∧ ∀ H', Q (.bl true) H'
theorem sp_law_start {K : PySem.W.Frag} {H : Hp} {a : Addr} {ns : List Int} {E : XK} (hl : ns.length ≤ 63) (_ : Only H) (hS : SqL K H a (ns.map V.int)) : sp_law K [.ref a] H (fun v _ => v = .bl true) E :=
  ⟨a, ns, rfl, hS, hl, fun _ => rfl⟩
theorem seqL_fresh {K : PySem.W.Frag} {S : List Addr} {H H' : Hp} {a : Addr} {xs : List V} (hS : SqL K H a xs) (c : Chg S H H') (hn : ∀ l ∈ S, H l = none) : SqL K H' a xs := by
  rcases hS with h | h
  · refine c.seqLS (.inl h) fun o e m => ?_
    have := hn _ m
    rcases h with h | ⟨o, h⟩
    · rw [this] at h; cases h
    · rw [this] at h; cases h
  · exact .inr h
/-! ### things of any kind -/
inductive Th where
  | non
  | bl (b : Bool)
  | int (i : Int)
  | str (s : Str)
  | tup (xs : List Th)
  | lst (xs : List Th)
  | dic
mutual
inductive Tq (F : Addr → Prop) (H : Hp) : V → Th → Prop
  | non : Tq F H .non .non
  | bl (b : Bool) : Tq F H (.bl b) (.bl b)
  | int (i : Int) : Tq F H (.int i) (.int i)
  | str {s : Str} (h : s.length ≤ 1000) : Tq F H (.str s) (.str s)
  | tup {a : Addr} {xs : List V} {ts : List Th} : H a = some (.tup xs) → TqA F H xs ts → Tq F H (.ref a) (.tup ts)
  | lst {a : Addr} {xs : List V} {ts : List Th} : F a → H a = some (.lst xs) → TqA F H xs ts → Tq F H (.ref a) (.lst ts)
  | dic {a : Addr} : F a → H a = some (.dK []) → Tq F H (.ref a) .dic
inductive TqA (F : Addr → Prop) (H : Hp) : List V → List Th → Prop
  | nil : TqA F H [] []
  | cons {x : V} {xs : List V} {t : Th} {ts : List Th} : Tq F H x t → TqA F H xs ts → TqA F H (x :: xs) (t :: ts)
end
mutual
theorem Tq.chg {F : Addr → Prop} {S : List Addr} {H H' : Hp} (c : Chg S H H') (n : ∀ a ∈ S, ¬ F a) : ∀ (t : Th) (v : V), Tq F H v t → Tq F H' v t
  | .non, _, h => by cases h; exact .non
  | .bl b, _, h => by cases h; exact .bl b
  | .int i, _, h => by cases h; exact .int i
  | .str s, _, h => by cases h with | str h => exact .str h
  | .tup ts, _, h => by cases h with | tup e r => exact .tup (c.tup e) (TqA.chg c n ts _ r)
  | .lst ts, _, h => by cases h with | lst f e r => exact .lst f (c.keep e fun m => n _ m f) (TqA.chg c n ts _ r)
  | .dic, _, h => by cases h with | dic f e => exact .dic f (c.keep e fun m => n _ m f)
theorem TqA.chg {F : Addr → Prop} {S : List Addr} {H H' : Hp} (c : Chg S H H') (n : ∀ a ∈ S, ¬ F a) : ∀ (ts : List Th) (xs : List V), TqA F H xs ts → TqA F H' xs ts
  | [], _, h => by cases h; exact .nil
  | t :: ts, _, h => by cases h with | cons r q => exact .cons (Tq.chg c n t _ r) (TqA.chg c n ts _ q)
end
section
variable {F : Addr → Prop} {S : List Addr} {H H' : Hp} {v x : V} {t : Th} {xs ys : List V} {ts us : List Th}
theorem Tq.on (h : Tq F H v t) (c : Chg S H H') (n : ∀ a ∈ S, ¬ F a) : Tq F H' v t := Tq.chg c n t v h
theorem Tq.on0 (h : Tq F H v t) (c : Chg [] H H') : Tq F H' v t := Tq.chg c (by simp) t v h
theorem TqA.on (h : TqA F H xs ts) (c : Chg S H H') (n : ∀ a ∈ S, ¬ F a) : TqA F H' xs ts := TqA.chg c n ts xs h
theorem TqA.on0 (h : TqA F H xs ts) (c : Chg [] H H') : TqA F H' xs ts := TqA.chg c (by simp) ts xs h
theorem TqA.length (h : TqA F H xs ts) : xs.length = ts.length := by
  induction ts generalizing xs with
  | nil => cases h; rfl
  | cons d ds ih => cases h with | cons r t => rw [List.length_cons, List.length_cons, ih t]
theorem TqA.get (h : TqA F H xs ts) {i : Nat} (e : xs[i]? = some x) : ∃ d, ts[i]? = some d ∧ Tq F H x d := by
  induction ts generalizing xs i with
  | nil => cases h; simp at e
  | cons d ds ih =>
    cases h with
    | cons r t =>
      cases i with
      | zero => simp at e; subst e; exact ⟨d, by simp, r⟩
      | succ i => simp at e; simpa using ih t e
theorem TqA.app (h : TqA F H xs ts) (h' : TqA F H ys us) : TqA F H (xs ++ ys) (ts ++ us) := by
  induction ts generalizing xs with
  | nil => cases h; exact h'
  | cons d ds ih => cases h with | cons r t => exact .cons r (ih t)
theorem TqA.one (h : Tq F H x t) : TqA F H [x] [t] := .cons h .nil
theorem TqA.take (h : TqA F H xs ts) (n : Nat) : TqA F H (xs.take n) (ts.take n) := by
  induction n generalizing xs ts with
  | zero => exact .nil
  | succ n ih =>
    cases ts with
    | nil => cases h; exact .nil
    | cons d ds => cases h with | cons r t => exact .cons r (ih t)
theorem TqA.drop (h : TqA F H xs ts) (n : Nat) : TqA F H (xs.drop n) (ts.drop n) := by
  induction n generalizing xs ts with
  | zero => exact h
  | succ n ih =>
    cases ts with
    | nil => cases h; exact .nil
    | cons d ds => cases h with | cons r t => exact ih t
theorem TqA.cut (h : TqA F H xs ts) (lo hi : Option Int) : TqA F H (cutV xs lo hi) (cutL ts lo hi) := by
  unfold cutV cutL
  rw [h.length]
  exact (h.drop _).take _
theorem TqA.rev (h : TqA F H xs ts) : TqA F H xs.reverse ts.reverse := by
  induction ts generalizing xs with
  | nil => cases h; exact .nil
  | cons d ds ih => cases h with | cons r t => rw [List.reverse_cons, List.reverse_cons]; exact (ih t).app (.one r)
theorem TqA.rep (h : TqA F H xs ts) (n : Nat) : TqA F H (List.replicate n xs).flatten (List.replicate n ts).flatten := by
  induction n with
  | zero => exact .nil
  | succ n ih => rw [List.replicate_succ, List.replicate_succ, List.flatten_cons, List.flatten_cons]; exact h.app ih
theorem Tq.tupI (h : Tq F H v (.tup ts)) : ∃ a xs, v = .ref a ∧ H a = some (.tup xs) ∧ TqA F H xs ts := by
  cases h with
  | tup e r => exact ⟨_, _, rfl, e, r⟩
end
mutual
theorem tq_and' {F G : Addr → Prop} {H : Hp} (hG : ∀ b o, H b = some o → G b) : ∀ (t : Th) (v : V), Tq F H v t → Tq (fun b => F b ∧ G b) H v t
  | .non, _, h => by cases h; exact .non
  | .bl b, _, h => by cases h; exact .bl b
  | .int i, _, h => by cases h; exact .int i
  | .str s, _, h => by cases h with | str h => exact .str h
  | .tup ts, _, h => by cases h with | tup e r => exact .tup e (tqA_and' hG ts _ r)
  | .lst ts, _, h => by cases h with | lst f e r => exact .lst ⟨f, hG _ _ e⟩ e (tqA_and' hG ts _ r)
  | .dic, _, h => by cases h with | dic f e => exact .dic ⟨f, hG _ _ e⟩ e
theorem tqA_and' {F G : Addr → Prop} {H : Hp} (hG : ∀ b o, H b = some o → G b) : ∀ (ts : List Th) (xs : List V), TqA F H xs ts → TqA (fun b => F b ∧ G b) H xs ts
  | [], _, h => by cases h; exact .nil
  | t :: ts, _, h => by cases h with | cons r q => exact .cons (tq_and' hG t _ r) (tqA_and' hG ts _ q)
end
theorem tq_and {F G : Addr → Prop} {H : Hp} {v : V} {t : Th} (h : Tq F H v t) (hG : ∀ b o, H b = some o → G b) : Tq (fun b => F b ∧ G b) H v t := tq_and' hG t v h
/-! data that never changes, as things; short texts -/
mutual
def shD : D → Bool
  | .str s => decide (s.length ≤ 100)
  | .tup xs => shDs xs
  | _ => true
def shDs : List D → Bool
  | [] => true
  | x :: xs => shD x && shDs xs
end
mutual
def Th.of : D → Th
  | .non => .non
  | .bl b => .bl b
  | .int i => .int i
  | .str s => .str s
  | .tup xs => .tup (Th.ofs xs)
def Th.ofs : List D → List Th
  | [] => []
  | x :: xs => Th.of x :: Th.ofs xs
end
theorem shDs_mem {ds : List D} {d : D} (h : shDs ds = true) (m : d ∈ ds) : shD d = true := by
  induction ds with
  | nil => cases m
  | cons e ds ih =>
    rw [shDs, Bool.and_eq_true] at h
    rcases List.mem_cons.mp m with rfl | m
    · exact h.1
    · exact ih h.2 m
theorem shDs_all {ds : List D} (h : ∀ d ∈ ds, shD d = true) : shDs ds = true := by
  induction ds with
  | nil => rfl
  | cons e ds ih => rw [shDs, h e List.mem_cons_self, ih fun d m => h d (List.mem_cons_of_mem _ m)]; rfl
mutual
theorem rp_tq {F : Addr → Prop} {H : Hp} : ∀ (d : D) (v : V), shD d = true → Rp H v d → Tq F H v (Th.of d)
  | .non, _, _, h => by cases h; exact .non
  | .bl b, _, _, h => by cases h; exact .bl b
  | .int i, _, _, h => by cases h; exact .int i
  | .str s, _, hs, h => by cases h; exact .str (by rw [shD, decide_eq_true_eq] at hs; omega)
  | .tup ds, _, hs, h => by cases h with | tup e r => exact .tup e (rpA_tq ds _ hs r)
theorem rpA_tq {F : Addr → Prop} {H : Hp} : ∀ (ds : List D) (xs : List V), shDs ds = true → RpA H xs ds → TqA F H xs (Th.ofs ds)
  | [], _, _, h => by cases h; exact .nil
  | d :: ds, _, hs, h => by
    rw [shDs, Bool.and_eq_true] at hs
    cases h with | cons r t => exact .cons (rp_tq d _ hs.1 r) (rpA_tq ds _ hs.2 t)
end
def Th.isa : Th → String → Bool
  | .non, S => S == "NoneType"
  | .bl _, S => S == "bool" || S == "int"
  | .int _, S => S == "int"
  | .str _, S => S == "str"
  | .tup _, S => S == "tuple"
  | .lst _, S => S == "list"
  | .dic, S => S == "dict"
theorem v_isi_th {K : PySem.W.Frag} {F : Addr → Prop} {H : Hp} {Q : VK} {v : V} {t : Th} {S : String} (h : Tq F H v t) (hS : sixT S) (q : Q (.bl (t.isa S)) H) : uIsi K [v, .ty S] H Q := by
  cases h with
  | non => exact v_isi_flat rfl hS q
  | bl b => exact v_isi_flat rfl hS q
  | int i => exact v_isi_flat rfl hS q
  | str h => exact v_isi_flat rfl hS q
  | tup e r => exact v_isi_tup e hS q
  | lst f e r => exact v_isi_lst e hS q
  | dic f e => exact v_isi_dic e hS q
def nameT : Th → Bool
  | .str z => isNm z
  | _ => false
def numT : Th → Bool
  | .int i => decide (0 ≤ i) && decide (i < 1000000)
  | _ => false
def oneT (zs : List Str) : Th → Bool
  | .str z => decide (z ∈ zs)
  | _ => false
def numsT (n : Nat) : Th → Bool
  | .tup ns => decide (ns.length ≤ n) && ns.all numT
  | _ => false
def pairT : Th → Bool
  | .tup [x, y] => nameT x && numsT 40 y
  | _ => false
def pairN : Th → Bool
  | .tup [x, _] => nameT x
  | _ => false
theorem pair_no : ∀ {d : Th}, (∀ x y, d ≠ .tup [x, y]) → pairN d = false ∧ pairT d = false
  | .tup [], _ => ⟨rfl, rfl⟩
  | .tup [_], _ => ⟨rfl, rfl⟩
  | .tup [x, y], hn => absurd rfl (hn x y)
  | .tup (_ :: _ :: _ :: _), _ => ⟨rfl, rfl⟩
  | .non, _ => ⟨rfl, rfl⟩
  | .bl _, _ => ⟨rfl, rfl⟩
  | .int _, _ => ⟨rfl, rfl⟩
  | .str _, _ => ⟨rfl, rfl⟩
  | .lst _, _ => ⟨rfl, rfl⟩
  | .dic, _ => ⟨rfl, rfl⟩
def strT : Th → Str
  | .str z => z
  | _ => ⟨#[]⟩
def firstT : Th → Str
  | .tup (x :: _) => strT x
  | _ => ⟨#[]⟩
def RiseT (xs : List Th) : Prop := ∀ i x y, xs[i]? = some x → xs[i + 1]? = some y → (firstT x).cps.toList < (firstT y).cps.toList
def WorldT (t : Th) : Prop := ∃ xs, t = .tup xs ∧ xs.length ≤ 5 ∧ xs.all pairT = true ∧ RiseT xs
theorem v_isi_d0 {K : PySem.W.Frag} {H : Hp} {Q : VK} {a : Addr} {kvs : List (Key × V)} {S : String} (h : H a = some (.dK kvs)) (hS : sixT S) (hn : (S == "dict") = false) (q : Q (.bl false) H) : uIsi K [.ref a, .ty S] H Q :=
  v_isi_dic h hS (by rw [hn]; exact q)
def sp_isname : Sp := fun vs H Q _ => ∃ v t F, vs = [v] ∧ Tq F H v t ∧ ∀ H', Chg [] H H' → Q (.bl (nameT t)) H'
def sp_isnum : Sp := fun vs H Q _ => ∃ v t F, vs = [v] ∧ Tq F H v t ∧ ∀ H', Chg [] H H' → Q (.bl (numT t)) H'
@[reducible] def tupT (n : Int) : Th → Bool
  | .tup xs => decide ((xs.length : Int) ≤ n)
  | _ => false
def sp_istup : Sp := fun vs H Q _ => ∃ v t F n, vs = [v, .int n] ∧ Tq F H v t ∧ ∀ H', Chg [] H H' → Q (.bl (tupT n t)) H'
def sp_ispair : Sp := fun vs H Q _ => ∃ v t F, vs = [v] ∧ Tq F H v t ∧ ∀ H', Chg [] H H' → Q (.bl (pairN t)) H'
def sp_arenums : Sp := fun vs H Q _ => ∃ v t F n, vs = [v, .int (n : Nat)] ∧ n ≤ 1000 ∧ Tq F H v t ∧ ∀ H', Chg [] H H' → Q (.bl (numsT n t)) H'
def sp_worldof (C : Addr) : Sp := fun vs H Q E => ∃ v t F, vs = [v] ∧ Tq F H v t ∧ (WorldT t → ∀ H', Chg [] H H' → Q v H') ∧ (¬ WorldT t → ∀ H', Chg [] H H' → E (.ref C) none H')
theorem abc_mem (c : Nat) : c ∈ (Str.ofString "abcdefghijklmnopqrstuvwxyz").cps.toList ↔ 97 ≤ c ∧ c ≤ 122 := by
  constructor
  · intro h
    obtain ⟨i, hi⟩ := List.mem_iff_getElem?.mp h
    have hi' : i < 26 := by have := (List.getElem?_eq_some_iff.mp hi).1; rw [abc_len] at this; exact this
    have e : c = 97 + i := Option.some.inj (hi.symm.trans (abc_at ⟨i, hi'⟩))
    omega
  · intro h
    have := abc_at ⟨c - 97, by omega⟩
    rw [show 97 + (⟨c - 97, by omega⟩ : Fin 26).val = c by show 97 + (c - 97) = c; omega] at this
    exact List.mem_of_getElem? this
theorem isNm_no {z : Str} {i : Nat} {x : Nat} (h : z.cps.toList[i]? = some x) (n : x ∉ (Str.ofString "abcdefghijklmnopqrstuvwxyz").cps.toList) : isNm z = false := by
  cases e : isNm z with
  | false => rfl
  | true =>
    simp only [isNm, Bool.and_eq_true, decide_eq_true_eq, List.all_eq_true] at e
    exact absurd ((abc_mem x).mpr (e.2 x (List.mem_of_getElem? h))) n
theorem isNm_yes {z : Str} (h1 : 1 ≤ z.length) (h2 : z.length ≤ 6) (h : ∀ (j : Nat) (x : Nat), j < z.length → z.cps.toList[j]? = some x → x ∈ (Str.ofString "abcdefghijklmnopqrstuvwxyz").cps.toList) : isNm z = true := by
  simp only [isNm, Bool.and_eq_true, decide_eq_true_eq, List.all_eq_true]
  refine ⟨⟨h1, h2⟩, fun c hc => ?_⟩
  obtain ⟨i, hi, e⟩ := List.getElem_of_mem hc
  exact (abc_mem c).mp (h i c (by rw [Array.length_toList] at hi; exact hi) (List.getElem?_eq_some_iff.mpr ⟨hi, e⟩))
theorem isNm_short {z : Str} (h : ¬ (1 ≤ z.length ∧ z.length ≤ 6)) : isNm z = false := by
  cases e : isNm z with
  | false => rfl
  | true => exact absurd (isNm_len e) h
theorem snoc_take {α : Type} {xs : List α} {i : Nat} {x : α} (h : xs[i]? = some x) : xs.take i ++ [x] = xs.take (i + 1) := by rw [List.take_add_one, h]; rfl
def sp_cls (NC : Addr) (wd : Str) : SpP := fun a cls d vs H Q E => vs = [.ref a] ∧ cls = .ref NC ∧ d = none ∧ ∀ H', Chg [] H H' → Q (.str wd) H'
def sp_lisworld : Sp := fun vs H Q _ => ∃ v t F, vs = [v] ∧ Tq F H v t ∧ (WorldT t → ∀ H', Chg [] H H' → Q (.bl true) H') ∧ (¬ WorldT t → ∀ H', Chg [] H H' → Q (.bl false) H')
def abcS : Str := Str.ofString "abcdefghijklmnopqrstuvwxyz"
def badS (l : List Nat) : List Nat := l.filter fun c => !decide (c ∈ abcS.cps.toList)
theorem badS_snoc (l : List Nat) (c : Nat) : badS (l ++ [c]) = badS l ++ if c ∈ abcS.cps.toList then [] else [c] := by
  unfold badS
  rw [List.filter_append]
  congr 1
  rw [List.filter_cons, List.filter_nil]
  by_cases h : c ∈ abcS.cps.toList
  · rw [decide_eq_true h, if_pos h]; rfl
  · rw [decide_eq_false h, if_neg h]; rfl
theorem badS_nm {z : Str} (h1 : 1 ≤ z.length) (h2 : z.length ≤ 6) : (badS z.cps.toList).isEmpty = isNm z := by
  cases e : isNm z with
  | true =>
    simp only [isNm, Bool.and_eq_true, decide_eq_true_eq, List.all_eq_true] at e
    have : badS z.cps.toList = [] := List.filter_eq_nil_iff.mpr fun c hc => by
      have := (abc_mem c).mpr (e.2 c hc)
      simpa [abcS] using this
    rw [this]; rfl
  | false =>
    cases hb : badS z.cps.toList with
    | cons x xs => rfl
    | nil =>
      have h := List.filter_eq_nil_iff.mp hb
      have : isNm z = true := isNm_yes h1 h2 fun j x _ hx => by
        have := h x (List.mem_of_getElem? hx)
        simpa [abcS] using this
      rw [this] at e; cases e
theorem isa_no {t : Th} (h : ∀ ys, t ≠ .tup ys) : t.isa "tuple" = false := by
  cases t with
  | tup ys => exact absurd rfl (h ys)
  | _ => rfl
theorem pairT_len {ys : List Th} (h : ys.length ≠ 2) : pairT (.tup ys) = false := by
  match ys, h with
  | [], _ => rfl
  | [_], _ => rfl
  | [_, _], h => exact absurd rfl h
  | _ :: _ :: _ :: _, _ => rfl
theorem numsT_no {t : Th} {n : Nat} (h : ∀ ys, t ≠ .tup ys) : numsT n t = false := by
  cases t with
  | tup ys => exact absurd rfl (h ys)
  | _ => rfl
/-! what is drawn: numbers, short texts, tuples of such -/
mutual
def gdD : D → Bool
  | .int i => decide (0 ≤ i) && decide (i < 1000000)
  | .str s => decide (s.length ≤ 100)
  | .tup xs => decide (xs.length ≤ 100) && gdDs xs
  | _ => false
def gdDs : List D → Bool
  | [] => true
  | x :: xs => gdD x && gdDs xs
end
theorem gdDs_mem {ds : List D} {d : D} (h : gdDs ds = true) (m : d ∈ ds) : gdD d = true := by
  induction ds with
  | nil => cases m
  | cons e ds ih =>
    rw [gdDs, Bool.and_eq_true] at h
    rcases List.mem_cons.mp m with rfl | m
    · exact h.1
    · exact ih h.2 m
theorem gdDs_all {ds : List D} (h : ∀ d ∈ ds, gdD d = true) : gdDs ds = true := by
  induction ds with
  | nil => rfl
  | cons e ds ih => rw [gdDs, h e List.mem_cons_self, ih fun d m => h d (List.mem_cons_of_mem _ m)]; rfl
mutual
theorem gd_sh : ∀ d : D, gdD d = true → shD d = true
  | .non, h => rfl
  | .bl _, h => rfl
  | .int _, h => rfl
  | .str s, h => h
  | .tup xs, h => by rw [gdD, Bool.and_eq_true] at h; exact gds_shs xs h.2
theorem gds_shs : ∀ ds : List D, gdDs ds = true → shDs ds = true
  | [], h => rfl
  | d :: ds, h => by rw [gdDs, Bool.and_eq_true] at h; rw [shDs, gd_sh d h.1, gds_shs ds h.2]; rfl
end
def OkV (st : Addr) (H : Hp) (v : V) : Prop := ∃ t, Tq (fun b => b ≠ st) H v t
theorem OkV.on {st : Addr} {H H' : Hp} {v : V} (h : OkV st H v) (c : Chg [st] H H') : OkV st H' v := by
  obtain ⟨t, h⟩ := h
  exact ⟨t, h.on c (by simp)⟩
theorem OkV.on0 {st : Addr} {H H' : Hp} {v : V} (h : OkV st H v) (c : Chg [] H H') : OkV st H' v := h.on c.of0
theorem OkV.tup {st : Addr} {H : Hp} {a : Addr} {xs : List V} {ts : List Th} (e : H a = some (.tup xs)) (h : TqA (fun b => b ≠ st) H xs ts) : OkV st H (.ref a) := ⟨_, .tup e h⟩
theorem OkV.int {st : Addr} {H : Hp} (i : Int) : OkV st H (.int i) := ⟨_, .int i⟩
theorem OkV.bl {st : Addr} {H : Hp} (i : Bool) : OkV st H (.bl i) := ⟨_, .bl i⟩
theorem OkV.str {st : Addr} {H : Hp} {z : Str} (h : z.length ≤ 1000) : OkV st H (.str z) := ⟨_, .str h⟩
theorem StAt.neN {H : Hp} {st p : Addr} (h : StAt H st) (hp : H p = none) : p ≠ st := by
  rintro rfl; obtain ⟨z, e, _⟩ := h; rw [hp] at e; cases e
def sp_odd : Sp := fun vs H Q _ => ∃ v d st, vs = [v, .ref st] ∧ Rp H v d ∧ gdD d = true ∧ StAt H st ∧ ∀ v' H', Chg [st] H H' → StAt H' st → OkV st H' v' → Q v' H'
def sp_spoilt (n : Nat) : Sp := fun vs H Q _ => ∃ v d st, vs = [v, .ref st] ∧ Rp H v d ∧ gdD d = true ∧ d.dep < n ∧ d.dep ≤ 60 ∧ StAt H st ∧ ∀ v' H', Chg [st] H H' → StAt H' st → OkV st H' v' → Q v' H'
theorem log2_small {i : Int} (h0 : 0 ≤ i) (h1 : i < 1000000) : i.natAbs.log2 < 1920 := by
  by_cases h : i.natAbs = 0
  · rw [h]; decide
  · exact (Nat.log2_lt h).mpr (Nat.lt_of_lt_of_le (show i.natAbs < 2 ^ 20 by omega) (Nat.pow_le_pow_right (by decide) (by decide)))
def sp_world : Sp := fun vs H Q _ => ∃ st, vs = [.ref st] ∧ StAt H st ∧ ∀ a ds H', Chg [st] H H' → StAt H' st → Rp H' (.ref a) (.tup ds) → gdDs ds = true → D.deps ds ≤ 3 → ds.length ≤ 6 → Q (.ref a) H'
theorem gdDs_ints (ns : List Int) (h : ∀ n ∈ ns, 0 ≤ n ∧ n < 1000000) : gdDs (ns.map D.int) = true := gdDs_all fun d hd => by
  obtain ⟨n, hn, rfl⟩ := List.mem_map.mp hd
  obtain ⟨h0, h1⟩ := h n hn
  rw [gdD, decide_eq_true h0, decide_eq_true h1]; rfl
theorem nums_rp {F : Addr → Prop} {H : Hp} : ∀ {ns : List Th} {us : List V}, TqA F H us ns → ns.all numT = true → ∃ ds, RpA H us ds ∧ D.deps ds ≤ 0
  | [], _, h, _ => by cases h; exact ⟨[], .nil, Nat.le_refl _⟩
  | t :: ns, _, h, ha => by
    cases h with
    | cons r q =>
      rw [List.all_cons, Bool.and_eq_true] at ha
      obtain ⟨ds, h1, h2⟩ := nums_rp q ha.2
      cases t with
      | int i => cases r; exact ⟨.int i :: ds, .cons (.int i) h1, by simp only [D.deps, D.dep]; omega⟩
      | _ => cases ha.1
theorem pair_rp {F : Addr → Prop} {H : Hp} {x : V} {t : Th} (h : Tq F H x t) (hp : pairT t = true) : ∃ d, Rp H x d ∧ d.dep ≤ 2 := by
  by_cases hpp : ∃ x y, t = .tup [x, y]
  · obtain ⟨x1, y1, rfl⟩ := hpp
    have e1 : (nameT x1 && numsT 40 y1) = true := hp
    rw [Bool.and_eq_true] at e1
    obtain ⟨b, ys, rfl, eb, rb⟩ := h.tupI
    cases rb with
    | cons r1 r' =>
      cases r' with
      | cons r2 r'' =>
        cases r''
        cases x1 with
        | str z =>
          cases r1
          cases y1 with
          | tup ns =>
            have e2 : (decide (ns.length ≤ 40) && ns.all numT) = true := e1.2
            rw [Bool.and_eq_true] at e2
            obtain ⟨b2, us, rfl, eb2, rb2⟩ := r2.tupI
            obtain ⟨ds, h1, h2⟩ := nums_rp rb2 e2.2
            exact ⟨.tup [.str z, .tup ds], .tup eb (.cons (.str (isNm_ok e1.1)) (.one (.tup eb2 h1))), by simp only [D.dep, D.deps]; omega⟩
          | _ => cases e1.2
        | _ => cases e1.1
  · rw [(pair_no fun x y h => hpp ⟨x, y, h⟩).2] at hp; cases hp
theorem pairs_rp {F : Addr → Prop} {H : Hp} : ∀ {ts : List Th} {us : List V}, TqA F H us ts → ts.all pairT = true → ∃ ds, RpA H us ds ∧ D.deps ds ≤ 2
  | [], _, h, _ => by cases h; exact ⟨[], .nil, by decide⟩
  | t :: ts, _, h, ha => by
    cases h with
    | cons r q =>
      rw [List.all_cons, Bool.and_eq_true] at ha
      obtain ⟨ds, h1, h2⟩ := pairs_rp q ha.2
      obtain ⟨d, h3, h4⟩ := pair_rp r ha.1
      exact ⟨d :: ds, .cons h3 h1, by rw [D.deps]; omega⟩
theorem world_rp {F : Addr → Prop} {H : Hp} {v : V} {t : Th} (h : Tq F H v t) (hw : WorldT t) : ∃ d, Rp H v d ∧ d.dep ≤ 3 := by
  obtain ⟨ts, rfl, _, ha, _⟩ := hw
  obtain ⟨b, us, rfl, eb, rb⟩ := h.tupI
  obtain ⟨ds, h1, h2⟩ := pairs_rp rb ha
  exact ⟨.tup ds, .tup eb h1, by rw [D.dep]; omega⟩
theorem WorldT.nil : WorldT (.tup []) := ⟨[], rfl, by decide, rfl, fun i x y h => by simp at h⟩
def sp_told : Sp := fun vs H Q _ => ∃ v t F, vs = [v] ∧ Tq F H v t ∧ (WorldT t → ∀ l H', H l = none → Chg [] H H' → H' l = some (.lst [v]) → Q (.ref l) H') ∧ (¬ WorldT t → ∀ H', Chg [] H H' → Q (.str "world") H')
/-! ### values, drawn -/
def sp_value (n : Nat) : Sp := fun vs H Q _ => ∃ st dp b l bs ls, vs = [.ref st, .int dp, .ref b, .ref l] ∧ StAt H st ∧ 1 ≤ dp ∧ dp ≤ n ∧ H b = some (.lst (List.map V.str bs)) ∧ H l = some (.lst (List.map V.str ls)) ∧ bs.length ≤ 26 ∧ ls.length ≤ 26 ∧ (∀ z ∈ bs, isNm z = true) ∧ (∀ z ∈ ls, isNm z = true) ∧
  ∀ (v : V) (u : Vl) H', Chg [st] H H' → StAt H' st → Rp H' v u.d → u.ok (fun z => z ∈ bs) (fun z => z ∈ ls) → (u.dp : Int) ≤ dp → Q v H'
theorem wOk {w : Str} (h : w ∈ ([("number" : Str), "box", "size", "not", "item", "set", "push", "pop", "put", "ask", "tell", "fail", "call", "return", "if", "while", "try", "def", "plus", "minus", "less", "same", "times", "over", "rest", "door", "a", "zz"] : List Str)) : PyData.strOk w = true := wordsOk w h
/-! ### values -/
def wPlain : List Str := [Str.ofString "number", Str.ofString "box", Str.ofString "size"]
def wOne : List Str := [Str.ofString "not", Str.ofString "item"]
def wTwo : List Str := [Str.ofString "plus", Str.ofString "minus", Str.ofString "times", Str.ofString "over", Str.ofString "rest", Str.ofString "less", Str.ofString "same"]
def valsIn (w : Str) : Option Nat := if w ∈ wPlain then some 0 else if w ∈ wOne then some 1 else if w ∈ wTwo then some 2 else none
def valsV (w : Str) : V := match valsIn w with
  | some n => .int n
  | none => .non
def plainT (bs ls : List Str) (w : Str) : List Th → Bool
  | [y] => if w = Str.ofString "number" then numT y else if w = Str.ofString "box" then oneT bs y else oneT ls y
  | _ => false
def restT (ls : List Str) (f : Th → Bool) (w : Str) (rest : List Th) : Bool := match valsIn w with
  | none => false
  | some n => if w = Str.ofString "item" then (match rest with | [y, z] => oneT ls y && f z | _ => false) else decide (rest.length = n) && rest.all f
def withinT (bs ls : List Str) : Nat → Th → Bool
  | 0, _ => false
  | n + 1, .tup (.str w :: rest) => if valsIn w = some 0 then plainT bs ls w rest else restT ls (withinT bs ls n) w rest
  | _ + 1, _ => false
theorem withinT_no {bs ls : List Str} {n : Nat} {t : Th} (h : ∀ w rest, t ≠ .tup (.str w :: rest)) : withinT bs ls n t = false := by
  cases n with
  | zero => rfl
  | succ n => rw [withinT]; exact h
def LiN (H : Hp) (b : Addr) (zs : List Str) : Prop := H b = some (.lst (zs.map V.str))
def sp_oneof : Sp := fun vs H Q _ => ∃ v t F b zs, vs = [v, .ref b] ∧ Tq F H v t ∧ H b = some (.lst (zs.map V.str)) ∧ ∀ H', Chg [] H H' → Q (.bl (oneT zs t)) H'
def sp_valsin : Sp := fun vs H Q _ => ∃ w, vs = [.str w] ∧ ∀ H', Chg [] H H' → Q (valsV w) H'
def sp_plain : Sp := fun vs H Q _ => ∃ a xs w rest F b1 b2 bs ls, vs = [.ref a, .ref b1, .ref b2] ∧ H a = some (.tup xs) ∧ TqA F H xs (.str w :: rest) ∧ valsIn w = some 0 ∧ H b1 = some (.lst (bs.map V.str)) ∧ H b2 = some (.lst (ls.map V.str)) ∧ ∀ H', Chg [] H H' → Q (.bl (plainT bs ls w rest)) H'
def sp_iswithin (m : Nat) : Sp := fun vs H Q _ => ∃ v t F b1 b2 bs ls n, vs = [v, .ref b1, .ref b2, .int (n : Nat)] ∧ n < m ∧ Tq F H v t ∧ H b1 = some (.lst (bs.map V.str)) ∧ H b2 = some (.lst (ls.map V.str)) ∧ ∀ H', Chg [] H H' → Q (.bl (withinT bs ls n t)) H'
def sp_value4 : Sp := fun vs H Q _ => ∃ v t F b1 b2 bs ls, vs = [v, .ref b1, .ref b2] ∧ Tq F H v t ∧ H b1 = some (.lst (bs.map V.str)) ∧ H b2 = some (.lst (ls.map V.str)) ∧ ∀ H', Chg [] H H' → Q (.bl (withinT bs ls 4 t)) H'
theorem v_eq_sc {K : PySem.W.Frag} {H : Hp} {Q : VK} {x y : V} (h : scal x y = true) (q : Q (.bl (decide (x = y))) H) : uEq K x y H Q := .inl (.inl ⟨h, q⟩)
theorem v_isn {H : Hp} {Q : VK} {x : V} (q : Q (.bl (decide (x = V.non))) H) : (fun (x y : V) (H : Hp) (Q : VK) => y = V.non ∧ Q (.bl (decide (x = V.non))) H) x .non H Q := ⟨rfl, q⟩
theorem valsIn_le {w : Str} {n : Nat} (h : valsIn w = some n) : n ≤ 2 := by
  unfold valsIn at h
  split at h
  · cases h; omega
  · split at h
    · cases h; omega
    · split at h
      · cases h; omega
      · cases h
theorem item_one : valsIn (Str.ofString "item") = some 1 := by decide
theorem cut_2 (xs : List V) : cutV xs (some 2) none = xs.drop 2 := by
  unfold cutV HT.sIx
  simp only
  match xs with
  | [] => rfl
  | [_] => rfl
  | _ :: _ :: xs => simp
def tailT (f : Th → Bool) (w : Str) (us : List Th) : Bool := match valsIn w with
  | none => false
  | some n => decide (us.length = n) && us.all f
theorem rest_tail {ls : List Str} {f : Th → Bool} {w : Str} {rest : List Th} (h : w ≠ Str.ofString "item") : restT ls f w rest = tailT f w rest := by
  unfold restT tailT
  cases valsIn w with
  | none => rfl
  | some n => simp only [if_neg h]
theorem not_one : valsIn (Str.ofString "not") = some 1 := by decide
theorem plain_cases {w : Str} (h : w ∈ wPlain) (hn : w ≠ Str.ofString "number") : w = Str.ofString "box" ∨ w = Str.ofString "size" := by
  simp only [wPlain, List.mem_cons, List.not_mem_nil, or_false] at h
  rcases h with h | h | h
  · exact absurd h hn
  · exact .inl h
  · exact .inr h
theorem plainT_len {bs ls : List Str} {w : Str} {rest : List Th} (h : rest.length ≠ 1) : plainT bs ls w rest = false := by
  match rest, h with
  | [], _ => rfl
  | [_], h => exact absurd rfl h
  | _ :: _ :: _, _ => rfl
theorem restT_item {ls : List Str} {f : Th → Bool} {rest : List Th} (h : rest.length ≠ 2) : restT ls f (Str.ofString "item") rest = false := by
  unfold restT
  rw [item_one]
  simp only [if_true]
  match rest, h with
  | [], _ => rfl
  | [_], _ => rfl
  | [_, _], h => exact absurd rfl h
  | _ :: _ :: _ :: _, _ => rfl
theorem restT_item2 {ls : List Str} {f : Th → Bool} {y z : Th} : restT ls f (Str.ofString "item") [y, z] = (oneT ls y && f z) := by
  unfold restT
  rw [item_one]
  simp only [if_true]
theorem restT_not {ls : List Str} {f : Th → Bool} {rest : List Th} : restT ls f (Str.ofString "not") rest = (decide (rest.length = 1) && rest.all f) := by
  rw [rest_tail (by decide)]
  unfold tailT
  rw [not_one]
theorem valsIn_two {w : Str} (h : w ∈ wTwo) : valsIn w = some 2 := by
  simp only [wTwo, List.mem_cons, List.not_mem_nil, or_false] at h
  rcases h with rfl | rfl | rfl | rfl | rfl | rfl | rfl <;> decide
theorem restT_two {ls : List Str} {f : Th → Bool} {w : Str} {rest : List Th} (hp : w ∉ wPlain) (hi : w ≠ Str.ofString "item") (hn : w ≠ Str.ofString "not") : restT ls f w rest = (decide (w ∈ wTwo) && (decide (rest.length = 2) && rest.all f)) := by
  rw [rest_tail hi]
  unfold tailT
  by_cases h2 : w ∈ wTwo
  · rw [valsIn_two h2, decide_eq_true h2, Bool.true_and]
  · rw [decide_eq_false h2, Bool.false_and]
    have : valsIn w = none := by
      unfold valsIn
      rw [if_neg hp, if_neg (by simp [wOne]; exact ⟨hn, hi⟩), if_neg h2]
    rw [this]
theorem v_isi_tl {K : PySem.W.Frag} {F : Addr → Prop} {H : Hp} {Q : VK} {v : V} {t : Th} {tp : Addr} (h : Tq F H v t) (e : H tp = some (.tup [.ty "tuple", .ty "list"])) (q : Q (.bl (t.isa "tuple" || t.isa "list")) H) : uIsiT K [v, .ref tp] H Q := by
  obtain ⟨a1, a2, a3, a4, a5, a6⟩ := kits
  obtain ⟨b1, b2, b3, b4, b5, b6⟩ := kitb
  obtain ⟨c1, c2, c3, c4, c5, c6⟩ := kiti
  obtain ⟨d1, d2, d3, d4, d5, d6⟩ := kitt
  obtain ⟨e1, e2, e3, e4, e5, e6⟩ := kitu
  obtain ⟨f1, f2, f3, f4, f5, f6⟩ := kitl
  obtain ⟨g1, g2, g3, g4, g5, g6⟩ := kitd
  cases h with
  | non => exact v_isiT_two (.base .non) e (by assumption) (by assumption) q
  | bl b => exact v_isiT_two (.base (.bl b)) e b4 b5 q
  | int i => exact v_isiT_two (.base (.int i)) e c4 c5 q
  | str h => exact v_isiT_two (.base (.str _)) e d4 d5 q
  | tup h r => exact v_isiT_two (.base (.tup h)) e e4 e5 q
  | lst f h r => exact v_isiT_two (.base (.lst h)) e f4 f5 q
  | dic f h => exact v_isiT_two (.base (.dK h)) e g4 g5 q
mutual
def Th.sz : Th → Nat
  | .tup xs => Th.szs xs + 1
  | .lst xs => Th.szs xs + 1
  | _ => 0
def Th.szs : List Th → Nat
  | [] => 0
  | x :: xs => max x.sz (Th.szs xs)
end
theorem Th.sz_mem {xs : List Th} {x : Th} (h : x ∈ xs) : x.sz ≤ Th.szs xs := by
  induction xs with
  | nil => cases h
  | cons y ys ih =>
    rw [Th.szs]
    rcases List.mem_cons.mp h with rfl | h
    · omega
    · have := ih h; omega
theorem vl_gd {B L : Str → Prop} (hB : ∀ z, B z → isNm z = true) (hL : ∀ z, L z → isNm z = true) : ∀ u : Vl, u.ok B L → gdD u.d = true
  | .num i, h => by
    have h : 0 ≤ i ∧ i < 1000000 := h
    simp only [Vl.d, gdD, gdDs, decide_eq_true h.1, decide_eq_true h.2]; rfl
  | .box z, h => by have := isNm_len (hB z h); simp only [Vl.d, gdD, gdDs, decide_eq_true (show z.length ≤ 100 by omega)]; rfl
  | .size z, h => by have := isNm_len (hL z h); simp only [Vl.d, gdD, gdDs, decide_eq_true (show z.length ≤ 100 by omega)]; rfl
  | .neg v, h => by simp only [Vl.d, gdD, gdDs, vl_gd hB hL v h]; rfl
  | .item z v, h => by have := isNm_len (hL z h.1); simp only [Vl.d, gdD, gdDs, vl_gd hB hL v h.2, decide_eq_true (show z.length ≤ 100 by omega)]; rfl
  | .bin w a b, h => by
    have hw : w.length ≤ 100 := by
      have := h.1
      simp only [binW, List.mem_cons, List.not_mem_nil, or_false] at this
      rcases this with rfl | rfl | rfl | rfl | rfl | rfl | rfl <;> decide
    simp only [Vl.d, gdD, gdDs, vl_gd hB hL a h.2.1, vl_gd hB hL b h.2.2, decide_eq_true hw]; rfl
def sp_thing : Sp := fun vs H Q _ => ∃ st b l bs ls, vs = [.ref st, .ref b, .ref l] ∧ StAt H st ∧ H b = some (.lst (List.map V.str bs)) ∧ H l = some (.lst (List.map V.str ls)) ∧ bs.length ≤ 26 ∧ ls.length ≤ 26 ∧ (∀ z ∈ bs, isNm z = true) ∧ (∀ z ∈ ls, isNm z = true) ∧
  ∀ (v : V) H', Chg [st] H H' → StAt H' st → OkV st H' v → Q v H'
def sp_same : Sp := fun vs H Q _ => ∃ x y : Bool, vs = [.bl x, .bl y] ∧ Q (.bl (x == y)) H
/-! ### rows, as they are looked at -/
inductive PK where
  | box | list | door | fn | val | vals | rows
  deriving DecidableEq
def partsOf (w : Str) : Option (List PK) :=
  if w ∈ [Str.ofString "tell", Str.ofString "fail", Str.ofString "return"] then some [.val] else
  if w = Str.ofString "set" then some [.box, .val] else if w = Str.ofString "pop" then some [.box, .list] else if w = Str.ofString "ask" then some [.box, .door] else
  if w = Str.ofString "call" then some [.box, .fn, .vals] else if w = Str.ofString "push" then some [.list, .val] else if w = Str.ofString "put" then some [.list, .val, .val] else
  if w = Str.ofString "if" then some [.val, .rows, .rows] else if w = Str.ofString "while" then some [.val, .rows] else if w = Str.ofString "try" then some [.rows, .box, .rows] else none
structure Sc where
  bs : List Str
  ls : List Str
  fs : List (Str × Int)
  ins : Bool
def fnK (fs : List (Str × Int)) : List (Key × V) := fs.map fun p => (.inr p.1, .int p.2)
def fitT (S : Sc) (row : Th → Bool) : PK → Th → Bool
  | .box, t => oneT S.bs t
  | .list, t => oneT S.ls t
  | .door, t => nameT t
  | .fn, t => oneT (S.fs.map (·.1)) t
  | .val, t => withinT S.bs S.ls 4 t
  | .vals, .tup ts => ts.all (withinT S.bs S.ls 4)
  | .rows, .tup ts => ts.all row
  | _, _ => false
def fitsT (S : Sc) (row : Th → Bool) : List PK → List Th → Bool
  | [], [] => true
  | k :: ks, t :: ts => fitT S row k t && fitsT S row ks ts
  | _, _ => false
def callT (S : Sc) : List Th → Bool
  | [_, .str f, .tup vs] => decide (valV (fnK S.fs) (.inr f) = some (.int vs.length))
  | _ => false
def rowT (S : Sc) : Nat → Th → Bool
  | 0, _ => false
  | n + 1, .tup (.str w :: rest) => match partsOf w with
    | none => false
    | some ks => (!decide (w = Str.ofString "return") || S.ins) && (fitsT S (rowT S n) ks rest && (!decide (w = Str.ofString "call") || callT S rest))
  | _ + 1, _ => false
theorem rowT_no {S : Sc} {n : Nat} {t : Th} (h : ∀ w rest, t ≠ .tup (.str w :: rest)) : rowT S n t = false := by
  cases n with
  | zero => rfl
  | succ n => rw [rowT]; exact h
theorem fitsT_len {S : Sc} {row : Th → Bool} : ∀ {ks : List PK} {ts : List Th}, ks.length ≠ ts.length → fitsT S row ks ts = false
  | [], [], h => absurd rfl h
  | [], _ :: _, _ => rfl
  | _ :: _, [], _ => rfl
  | k :: ks, t :: ts, h => by rw [fitsT, fitsT_len (ks := ks) (ts := ts) (fun e => h (by rw [List.length_cons, List.length_cons, e])), Bool.and_false]
theorem fitsT_all {S : Sc} {row : Th → Bool} : ∀ {ks : List PK} {ts : List Th}, ks.length = ts.length → (∀ (i : Nat) (k : PK) (t : Th), ks[i]? = some k → ts[i]? = some t → fitT S row k t = true) → fitsT S row ks ts = true
  | [], [], _, _ => rfl
  | k :: ks, t :: ts, h, hh => by
    rw [fitsT, hh 0 k t rfl rfl, fitsT_all (by rw [List.length_cons, List.length_cons] at h; omega) fun i k t h1 h2 => hh (i + 1) k t (by simpa using h1) (by simpa using h2)]; rfl
  | [], _ :: _, h, _ => by simp at h
  | _ :: _, [], h, _ => by simp at h
theorem fitsT_one {S : Sc} {row : Th → Bool} : ∀ {ks : List PK} {ts : List Th} {i : Nat} {k : PK} {t : Th}, ks[i]? = some k → ts[i]? = some t → fitT S row k t = false → fitsT S row ks ts = false
  | k0 :: ks, t0 :: ts, 0, k, t, h1, h2, h => by simp at h1 h2; subst h1; subst h2; rw [fitsT, h, Bool.false_and]
  | k0 :: ks, t0 :: ts, i + 1, k, t, h1, h2, h => by rw [fitsT, fitsT_one (i := i) (by simpa using h1) (by simpa using h2) h, Bool.and_false]
  | [], _, _, _, _, h1, _, _ => by simp at h1
  | _ :: _, [], _, _, _, _, h2, _ => by simp at h2
def ScAt (C : Addr) (H : Hp) (sc : Addr) (S : Sc) : Prop := ∃ dx b l fd, H sc = some (.ins C dx [("boxes", .ref b), ("lists", .ref l), ("functions", .ref fd), ("inside", .bl S.ins)]) ∧ H b = some (.lst (S.bs.map V.str)) ∧ H l = some (.lst (S.ls.map V.str)) ∧ H fd = some (.dK (fnK S.fs))
theorem ScAt.on0 {C : Addr} {H H' : Hp} {sc : Addr} {S : Sc} (h : ScAt C H sc S) (c : Chg [] H H') : ScAt C H' sc S := by
  obtain ⟨dx, b, l, fd, h1, h2, h3, h4⟩ := h
  exact ⟨dx, b, l, fd, c.at h1, c.at h2, c.at h3, c.at h4⟩
def sp_scope (C : Addr) : Sp := fun vs H Q _ => ∃ y dx v1 v2 v3 v4, vs = [.ref y, v1, v2, v3, v4] ∧ H y = some (.ins C dx []) ∧ ∀ H', Chg [y] H H' → H' y = some (.ins C dx [("boxes", v1), ("lists", v2), ("functions", v3), ("inside", v4)]) → Q .non H'
def sp_fit (C : Addr) (k : PK) : Sp := fun vs H Q _ => ∃ me v t F sc S d, vs = [.ref me, v, .ref sc, .int d] ∧ Tq F H v t ∧ ScAt C H sc S ∧ ∀ H', Chg [] H H' → Q (.bl (fitT S (fun _ => false) k t)) H'
def sp_fitrows (C : Addr) (m : Nat) : Sp := fun vs H Q _ => ∃ me v t F sc S n, vs = [.ref me, v, .ref sc, .int (5 - (n : Nat))] ∧ n < m ∧ Tq F H v t ∧ ScAt C H sc S ∧ ∀ H', Chg [] H H' → Q (.bl (fitT S (rowT S n) .rows t)) H'
def sp_isrow (C : Addr) (m : Nat) : Sp := fun vs H Q _ => ∃ v t F sc S n, vs = [v, .ref sc, .int (6 - (n : Nat))] ∧ n < m ∧ Tq F H v t ∧ ScAt C H sc S ∧ ∀ H', Chg [] H H' → Q (.bl (rowT S n t)) H'
/-- the classes of the parts -/
structure Cs where
  b : Addr
  l : Addr
  d : Addr
  f : Addr
  v : Addr
  vs : Addr
  r : Addr
def Cs.of (c : Cs) : PK → Addr
  | .box => c.b
  | .list => c.l
  | .door => c.d
  | .fn => c.f
  | .val => c.v
  | .vals => c.vs
  | .rows => c.r
def PtAt (c : Cs) (H : Hp) (x : V) (k : PK) : Prop := ∃ a dx, x = .ref a ∧ H a = some (.ins (c.of k) dx [])
inductive PtsAt (c : Cs) (H : Hp) : List V → List PK → Prop
  | nil : PtsAt c H [] []
  | cons {x : V} {xs : List V} {k : PK} {ks : List PK} : PtAt c H x k → PtsAt c H xs ks → PtsAt c H (x :: xs) (k :: ks)
theorem PtAt.on0 {c : Cs} {H H' : Hp} {x : V} {k : PK} (h : PtAt c H x k) (g : Chg [] H H') : PtAt c H' x k := by
  obtain ⟨a, dx, e, h⟩ := h
  exact ⟨a, dx, e, g.at h⟩
theorem PtsAt.on0 {c : Cs} {H H' : Hp} {xs : List V} {ks : List PK} (h : PtsAt c H xs ks) (g : Chg [] H H') : PtsAt c H' xs ks := by
  induction h with
  | nil => exact .nil
  | cons h _ ih => exact .cons (h.on0 g) ih
theorem PtsAt.length {c : Cs} {H : Hp} {xs : List V} {ks : List PK} (h : PtsAt c H xs ks) : xs.length = ks.length := by
  induction h with
  | nil => rfl
  | cons h _ ih => rw [List.length_cons, List.length_cons, ih]
theorem PtsAt.get {c : Cs} {H : Hp} {xs : List V} {ks : List PK} (h : PtsAt c H xs ks) : ∀ {i : Nat} {x : V}, xs[i]? = some x → ∃ k, ks[i]? = some k ∧ PtAt c H x k := by
  induction h with
  | nil => intro i x e; simp at e
  | cons h _ ih =>
    intro i x e
    cases i with
    | zero => simp at e; subst e; exact ⟨_, by simp, h⟩
    | succ i => simp at e; simpa using ih e
def LsAt (c : Cs) (H : Hp) (v : V) (ks : List PK) : Prop := ∃ l xs, v = .ref l ∧ H l = some (.lst xs) ∧ PtsAt c H xs ks
theorem LsAt.on0 {c : Cs} {H H' : Hp} {v : V} {ks : List PK} (h : LsAt c H v ks) (g : Chg [] H H') : LsAt c H' v ks := by
  obtain ⟨l, xs, e, h1, h2⟩ := h
  exact ⟨l, xs, e, g.at h1, h2.on0 g⟩
theorem LsAt.onD {c : Cs} {H H' : Hp} {v : V} {ks : List PK} {p : Addr} {kvs : List (Key × V)} (h : LsAt c H v ks) (g : Chg [p] H H') (hp : H p = some (.dK kvs)) : LsAt c H' v ks := by
  obtain ⟨l, xs, e, h1, h2⟩ := h
  refine ⟨l, xs, e, g.keep h1 (by rw [List.mem_singleton]; rintro rfl; rw [hp] at h1; cases h1), ?_⟩
  clear h1 e
  induction h2 with
  | nil => exact .nil
  | cons h _ ih =>
    obtain ⟨a, dx, e, ha⟩ := h
    exact .cons ⟨a, dx, e, g.keep ha (by rw [List.mem_singleton]; rintro rfl; rw [hp] at ha; cases ha)⟩ ih
def KvP (c : Cs) (H : Hp) (kvs : List (Key × V)) (es : List (Str × List PK)) : Prop := Paired (fun q e => q.1 = .inr e.1 ∧ LsAt c H q.2 e.2) kvs es
theorem KvP.on0 {c : Cs} {H H' : Hp} {kvs : List (Key × V)} {es : List (Str × List PK)} (h : KvP c H kvs es) (g : Chg [] H H') : KvP c H' kvs es := Paired.mono (fun _ _ ⟨e, h⟩ => ⟨e, h.on0 g⟩) h
theorem KvP.onD {c : Cs} {H H' : Hp} {kvs kv2 : List (Key × V)} {es : List (Str × List PK)} {p : Addr} (h : KvP c H kvs es) (g : Chg [p] H H') (hp : H p = some (.dK kv2)) : KvP c H' kvs es := Paired.mono (fun _ _ ⟨e, h⟩ => ⟨e, h.onD g hp⟩) h
theorem KvP.some {c : Cs} {H : Hp} {w : Str} {v : V} : ∀ {kvs : List (Key × V)} {es : List (Str × List PK)}, KvP c H kvs es → valV kvs (.inr w) = some v → ∃ e, e ∈ es ∧ e.1 = w ∧ LsAt c H v e.2
  | _, _, .nil, h => by cases h
  | (k, x) :: kvs, e :: es, .cons ⟨h1, h2⟩ r, h => by
    cases h1
    by_cases hw : e.1 = w
    · rw [valV_pos (p := (Sum.inr e.1, x)) (by rw [hw])] at h
      cases h
      exact ⟨e, List.mem_cons_self, hw, h2⟩
    · rw [valV_neg (p := (Sum.inr e.1, x)) (fun e => hw (Sum.inr.inj e))] at h
      obtain ⟨e2, m, h3⟩ := KvP.some r h
      exact ⟨e2, List.mem_cons_of_mem _ m, h3⟩
theorem KvP.none {c : Cs} {H : Hp} {w : Str} : ∀ {kvs : List (Key × V)} {es : List (Str × List PK)}, KvP c H kvs es → valV kvs (.inr w) = none → ∀ e ∈ es, e.1 ≠ w
  | _, _, .nil, _, e, h => by cases h
  | (k, x) :: kvs, e0 :: es, .cons ⟨h1, h2⟩ r, h, e, he => by
    cases h1
    by_cases hw : e0.1 = w
    · rw [valV_pos (p := (Sum.inr e0.1, x)) (by rw [hw])] at h; cases h
    · rw [valV_neg (p := (Sum.inr e0.1, x)) (fun e => hw (Sum.inr.inj e))] at h
      rcases List.mem_cons.mp he with rfl | he
      · exact hw
      · exact KvP.none r h e he
def esP : List (Str × List PK) := [("tell", [.val]), ("fail", [.val]), ("return", [.val])]
def esB : List (Str × List PK) := [("set", [.box, .val]), ("pop", [.box, .list]), ("ask", [.box, .door]), ("call", [.box, .fn, .vals])]
def esL : List (Str × List PK) := [("push", [.list, .val]), ("put", [.list, .val, .val])]
def esA : List (Str × List PK) := [("if", [.val, .rows, .rows]), ("while", [.val, .rows]), ("try", [.rows, .box, .rows])]
theorem es_some : ∀ e ∈ esP ++ esB ++ esL ++ esA, partsOf e.1 = some e.2 := by decide +kernel
theorem es_none {w : Str} (h : ∀ e ∈ esP ++ esB ++ esL ++ esA, e.1 ≠ w) : partsOf w = none := by
  simp only [esP, esB, esL, esA, List.cons_append, List.nil_append, List.mem_cons, List.not_mem_nil, or_false, forall_eq_or_imp, forall_eq] at h
  obtain ⟨h1, h2, h3, h4, h5, h6, h7, h8, h9, h10, h11, h12⟩ := h
  unfold partsOf
  rw [if_neg (by simp only [List.mem_cons, List.not_mem_nil, or_false]; rintro (e | e | e); exact h1 e.symm; exact h2 e.symm; exact h3 e.symm), if_neg (Ne.symm h4), if_neg (Ne.symm h5), if_neg (Ne.symm h6), if_neg (Ne.symm h7), if_neg (Ne.symm h8), if_neg (Ne.symm h9), if_neg (Ne.symm h10), if_neg (Ne.symm h11), if_neg (Ne.symm h12)]
def sp_partsof (c : Cs) : Sp := fun vs H Q _ => ∃ w, vs = [.str w] ∧ ∀ v H', Chg [] H H' → (match partsOf w with | none => v = .non | some ks => ∃ l xs, v = .ref l ∧ H' l = some (.lst xs) ∧ PtsAt c H' xs ks) → Q v H'
theorem fnK_val {fs : List (Str × Int)} {f : Str} (h : f ∈ fs.map Prod.fst) : ∃ i, valV (fnK fs) (.inr f) = some (.int i) := by
  induction fs with
  | nil => cases h
  | cons p fs ih =>
    by_cases e : p.1 = f
    · exact ⟨p.2, by
        show valV ((.inr p.1, .int p.2) :: fnK fs) _ = _
        rw [valV_pos (p := (Sum.inr p.1, V.int p.2)) (by rw [e])]⟩
    · obtain ⟨i, hi⟩ := ih ((List.mem_cons.mp h).resolve_left (fun g => e g.symm))
      exact ⟨i, by
        show valV ((.inr p.1, .int p.2) :: fnK fs) _ = _
        rw [valV_neg (p := (Sum.inr p.1, V.int p.2)) (fun g => e (Sum.inr.inj g))]; exact hi⟩
theorem oneT_str {zs : List Str} {t : Th} (h : oneT zs t = true) : ∃ z, t = .str z ∧ z ∈ zs := by
  cases t with
  | str z => exact ⟨z, rfl, of_decide_eq_true h⟩
  | _ => cases h
theorem fitT_vals {S : Sc} {row : Th → Bool} {t : Th} (h : fitT S row .vals t = true) : ∃ ts, t = .tup ts ∧ ts.all (withinT S.bs S.ls 4) = true := by
  cases t with
  | tup ts => exact ⟨ts, rfl, h⟩
  | _ => cases h
theorem fitT_rows {S : Sc} {row : Th → Bool} {t : Th} (h : fitT S row .rows t = true) : ∃ ts, t = .tup ts ∧ ts.all row = true := by
  cases t with
  | tup ts => exact ⟨ts, rfl, h⟩
  | _ => cases h
theorem call_parts : partsOf (Str.ofString "call") = some [.box, .fn, .vals] := by decide
/-! ### programs, as they are looked at -/
def boxT : Th → Bool
  | .tup [x, y] => nameT x && numT y
  | _ => false
def listT : Th → Bool
  | .tup [x, y] => nameT x && numsT 12 y
  | _ => false
def namesT (ts : List Th) : List Str := ts.map firstT
def storesT : Th → Th → Bool
  | .tup bs, .tup ls => (decide (bs.length ≤ 6) && bs.all boxT) && ((decide (ls.length ≤ 3) && ls.all listT) && decide (namesT (bs ++ ls)).Nodup)
  | _, _ => false
def namsT (n : Nat) : Th → Bool
  | .tup xs => decide (xs.length ≤ n) && xs.all nameT
  | _ => false
def strsT : Th → List Str
  | .tup xs => xs.map strT
  | _ => []
def fnT (ns : List Str) : Th → Bool
  | .tup [a, p, o, r] => nameT a && (namsT 3 p && (namsT 3 o && (r.isa "tuple" && decide (ns ++ (strsT p ++ strsT o)).Nodup)))
  | _ => false
def fnsT (ns : List Str) : Th → Bool
  | .tup fs => (decide (fs.length ≤ 4) && fs.all (fnT ns)) && decide (namesT fs).Nodup
  | _ => false
theorem two_no {d : Th} (h : ∀ x y, d ≠ .tup [x, y]) : pairN d = false ∧ boxT d = false ∧ listT d = false := by
  match d, h with
  | .tup [], _ => exact ⟨rfl, rfl, rfl⟩
  | .tup [_], _ => exact ⟨rfl, rfl, rfl⟩
  | .tup [x, y], hn => exact absurd rfl (hn x y)
  | .tup (_ :: _ :: _ :: _), _ => exact ⟨rfl, rfl, rfl⟩
  | .non, _ => exact ⟨rfl, rfl, rfl⟩
  | .bl _, _ => exact ⟨rfl, rfl, rfl⟩
  | .int _, _ => exact ⟨rfl, rfl, rfl⟩
  | .str _, _ => exact ⟨rfl, rfl, rfl⟩
  | .lst _, _ => exact ⟨rfl, rfl, rfl⟩
  | .dic, _ => exact ⟨rfl, rfl, rfl⟩
theorem nameT_str {t : Th} (h : nameT t = true) : ∃ z, t = .str z ∧ isNm z = true := by
  cases t with
  | str z => exact ⟨z, rfl, h⟩
  | _ => cases h
def sp_unlike : Sp := fun vs H Q _ => ∃ (b : Addr) (ns : List Str), vs = [.ref b] ∧ H b = some (.lst (ns.map V.str)) ∧ ns.length ≤ 1000 ∧ ∀ H', Chg [] H H' → Q (.bl (decide ns.Nodup)) H'
def sp_arenames : Sp := fun vs H Q _ => ∃ v t F n, vs = [v, .int (n : Nat)] ∧ n ≤ 1000 ∧ Tq F H v t ∧ ∀ H', Chg [] H H' → Q (.bl (namsT n t)) H'
def sp_stores : Sp := fun vs H Q _ => ∃ v1 v2 t1 t2 F, vs = [v1, v2] ∧ Tq F H v1 t1 ∧ Tq F H v2 t2 ∧ ∀ H', Chg [] H H' → Q (.bl (storesT t1 t2)) H'
def sp_isfn : Sp := fun vs H Q _ => ∃ v t F b, ∃ ns : List Str, vs = [v, .ref b] ∧ Tq F H v t ∧ H b = some (.lst (ns.map V.str)) ∧ ns.length ≤ 100 ∧ ∀ H', Chg [] H H' → Q (.bl (fnT ns t)) H'
def sp_arefns : Sp := fun vs H Q _ => ∃ v t F b, ∃ ns : List Str, vs = [v, .ref b] ∧ Tq F H v t ∧ H b = some (.lst (ns.map V.str)) ∧ ns.length ≤ 100 ∧ ∀ H', Chg [] H H' → Q (.bl (fnsT ns t)) H'
def sp_needrows (C NR : Addr) : Sp := fun vs H Q E => ∃ v ts F sc S, vs = [v, .ref sc] ∧ Tq F H v (.tup ts) ∧ ScAt C H sc S ∧ (ts.all (rowT S 5) = true → ∀ H', Chg [] H H' → Q .non H') ∧ (ts.all (rowT S 5) = false → ∀ H', Chg [] H H' → E (.ref NR) none H')
/-- what stands first in each: a text -/
def Fst1 (H : Hp) (xs : List V) (zs : List Str) : Prop := ∀ (i : Nat) (x : V), xs[i]? = some x → ∃ a z ys, x = .ref a ∧ zs[i]? = some z ∧ H a = some (.tup (.str z :: ys))
theorem fst1_of {F : Addr → Prop} {H : Hp} {xs : List V} {ts : List Th} (h : TqA F H xs ts) (hn : ∀ t ∈ ts, pairN t = true ∨ ∃ ns, fnT ns t = true) : Fst1 H xs (namesT ts) := by
  intro i x hx
  obtain ⟨d, hd, rx⟩ := h.get hx
  have hdm := List.mem_of_getElem? hd
  have key : ∃ t us, d = .tup (t :: us) ∧ nameT t = true := by
    rcases hn d hdm with hp | ⟨ns, hp⟩
    · by_cases h2 : ∃ x y, d = .tup [x, y]
      · obtain ⟨t1, t2, rfl⟩ := h2
        exact ⟨t1, [t2], rfl, hp⟩
      · rw [(two_no fun x y e => h2 ⟨x, y, e⟩).1] at hp; cases hp
    · match d, hp with
      | .tup [a, p, o, r], hp =>
        have hp : (nameT a && (namsT 3 p && (namsT 3 o && (r.isa "tuple" && decide (ns ++ (strsT p ++ strsT o)).Nodup)))) = true := hp
        rw [Bool.and_eq_true] at hp
        exact ⟨a, [p, o, r], rfl, hp.1⟩
  obtain ⟨t, us, rfl, htn⟩ := key
  obtain ⟨z, rfl, _⟩ := nameT_str htn
  obtain ⟨a, ys, rfl, ea, ra⟩ := rx.tupI
  cases ra with
  | cons r1 r2 =>
    cases r1
    exact ⟨a, z, _, rfl, by rw [namesT, List.getElem?_map, hd]; rfl, ea⟩
theorem Fst1.on0 {H H' : Hp} {xs : List V} {zs : List Str} (h : Fst1 H xs zs) (c : Chg [] H H') : Fst1 H' xs zs := fun i x hx => by
  obtain ⟨a, z, ys, e1, e2, e3⟩ := h i x hx
  exact ⟨a, z, ys, e1, e2, c.tup e3⟩
theorem boxT_pair {t : Th} (h : boxT t = true) : pairN t = true := by
  match t, h with
  | .tup [x, y], h =>
    have h : (nameT x && numT y) = true := h
    rw [Bool.and_eq_true] at h; exact h.1
theorem listT_pair {t : Th} (h : listT t = true) : pairN t = true := by
  match t, h with
  | .tup [x, y], h =>
    have h : (nameT x && numsT 12 y) = true := h
    rw [Bool.and_eq_true] at h; exact h.1
theorem namsT_no {n : Nat} {t : Th} (h : ∀ ys, t ≠ .tup ys) : namsT n t = false := by
  cases t with
  | tup ys => exact absurd rfl (h ys)
  | _ => rfl
theorem namsT_tup {n : Nat} {t : Th} (h : namsT n t = true) : ∃ xs, t = .tup xs ∧ xs.length ≤ n ∧ xs.all nameT = true := by
  cases t with
  | tup xs =>
    have h : (decide (xs.length ≤ n) && xs.all nameT) = true := h
    rw [Bool.and_eq_true, decide_eq_true_eq] at h
    exact ⟨xs, rfl, h.1, h.2⟩
  | _ => cases h
theorem strs_at {F : Addr → Prop} {H : Hp} : ∀ {xs : List V} {ts : List Th}, TqA F H xs ts → ts.all nameT = true → xs = (ts.map strT).map V.str
  | _, [], h, _ => by cases h; rfl
  | _, t :: ts, h, ha => by
    cases h with
    | cons r q =>
      rw [List.all_cons, Bool.and_eq_true] at ha
      obtain ⟨z, rfl, _⟩ := nameT_str ha.1
      cases r
      rw [strs_at q ha.2]; rfl
theorem fnT_len {ns : List Str} {ts : List Th} (h : ts.length ≠ 4) : fnT ns (.tup ts) = false := by
  match ts, h with
  | [], _ => rfl
  | [_], _ => rfl
  | [_, _], _ => rfl
  | [_, _, _], _ => rfl
  | [_, _, _, _], h => exact absurd rfl h
  | _ :: _ :: _ :: _ :: _ :: _, _ => rfl
theorem fnT_no {ns : List Str} {t : Th} (h : ∀ ys, t ≠ .tup ys) : fnT ns t = false := by
  cases t with
  | tup ys => exact absurd rfl (h ys)
  | _ => rfl
theorem atI_2 {α : Type} (x y z : α) (xs : List α) : atI (x :: y :: z :: xs) 2 = some z := atI_nat (j := 2) (by simp)
theorem atI_3 {α : Type} (x y z u : α) (xs : List α) : atI (x :: y :: z :: u :: xs) 3 = some u := atI_nat (j := 3) (by simp)
theorem TqA.four {F : Addr → Prop} {H : Hp} {xs : List V} {t1 t2 t3 t4 : Th} (h : TqA F H xs [t1, t2, t3, t4]) : ∃ x1 x2 x3 x4, xs = [x1, x2, x3, x4] ∧ Tq F H x1 t1 ∧ Tq F H x2 t2 ∧ Tq F H x3 t3 ∧ Tq F H x4 t4 := by
  cases h with
  | cons r1 h => cases h with
    | cons r2 h => cases h with
      | cons r3 h => cases h with
        | cons r4 h => cases h; exact ⟨_, _, _, _, rfl, r1, r2, r3, r4⟩
/-! ### things that are programs -/
theorem Th.ofs_eq : ∀ ds : List D, Th.ofs ds = ds.map Th.of
  | [] => rfl
  | d :: ds => by rw [Th.ofs, Th.ofs_eq ds]; rfl
theorem Th.ofs_app (a b : List D) : Th.ofs (a ++ b) = Th.ofs a ++ Th.ofs b := by rw [Th.ofs_eq, Th.ofs_eq, Th.ofs_eq, List.map_append]
/-! the texts of data can be laid -/
mutual
def stD : D → Bool
  | .str s => PyData.strOk s
  | .tup xs => stDs xs
  | _ => true
def stDs : List D → Bool
  | [] => true
  | x :: xs => stD x && stDs xs
end
mutual
theorem tq_rp {F : Addr → Prop} {H : Hp} : ∀ (d : D) (v : V), stD d = true → Tq F H v (Th.of d) → Rp H v d
  | .non, _, _, h => by cases h; exact .non
  | .bl b, _, _, h => by cases h; exact .bl b
  | .int i, _, _, h => by cases h; exact .int i
  | .str s, _, hs, h => by cases h; exact .str hs
  | .tup ds, _, hs, h => by cases h with | tup e r => exact .tup e (tqA_rp ds _ hs r)
theorem tqA_rp {F : Addr → Prop} {H : Hp} : ∀ (ds : List D) (xs : List V), stDs ds = true → TqA F H xs (Th.ofs ds) → RpA H xs ds
  | [], _, _, h => by cases h; exact .nil
  | d :: ds, _, hs, h => by
    rw [stDs, Bool.and_eq_true] at hs
    cases h with | cons r t => exact .cons (tq_rp d _ hs.1 r) (tqA_rp ds _ hs.2 t)
end
theorem stDs_all {ds : List D} (h : ∀ d ∈ ds, stD d = true) : stDs ds = true := by
  induction ds with
  | nil => rfl
  | cons d ds ih => rw [stDs, h d List.mem_cons_self, ih fun e m => h e (List.mem_cons_of_mem _ m)]; rfl
theorem vl_st {B L : Str → Prop} (hB : ∀ z, B z → isNm z = true) (hL : ∀ z, L z → isNm z = true) : ∀ u : Vl, u.ok B L → stD u.d = true
  | .num i, h => by simp only [Vl.d, stD, stDs]; decide +kernel
  | .box z, h => by simp only [Vl.d, stD, stDs, isNm_ok (hB z h)]; decide +kernel
  | .size z, h => by simp only [Vl.d, stD, stDs, isNm_ok (hL z h)]; decide +kernel
  | .neg v, h => by simp only [Vl.d, stD, stDs, vl_st hB hL v h]; decide +kernel
  | .item z v, h => by simp only [Vl.d, stD, stDs, vl_st hB hL v h.2, isNm_ok (hL z h.1)]; decide +kernel
  | .bin w a b, h => by
    have hw : PyData.strOk w = true := by
      have := h.1
      simp only [binW, List.mem_cons, List.not_mem_nil, or_false] at this
      rcases this with rfl | rfl | rfl | rfl | rfl | rfl | rfl <;> decide +kernel
    simp only [Vl.d, stD, stDs, vl_st hB hL a h.2.1, vl_st hB hL b h.2.2, hw]; decide +kernel
theorem bin_two {w : Str} (h : w ∈ wTwo) : w ∈ binW := by
  simp only [wTwo, List.mem_cons, List.not_mem_nil, or_false] at h
  rcases h with rfl | rfl | rfl | rfl | rfl | rfl | rfl <;> decide
theorem two_bin {w : Str} (h : w ∈ binW) : w ∈ wTwo := by
  simp only [binW, List.mem_cons, List.not_mem_nil, or_false] at h
  rcases h with rfl | rfl | rfl | rfl | rfl | rfl | rfl <;> decide
theorem numT_int {t : Th} (h : numT t = true) : ∃ i, t = .int i ∧ 0 ≤ i ∧ i < 1000000 := by
  cases t with
  | int i =>
    have h : (decide (0 ≤ i) && decide (i < 1000000)) = true := h
    rw [Bool.and_eq_true, decide_eq_true_eq, decide_eq_true_eq] at h
    exact ⟨i, rfl, h⟩
  | _ => cases h
/-- a value that is within -/
theorem vl_of {bs ls : List Str} : ∀ (n : Nat) (t : Th), withinT bs ls n t = true → ∃ u : Vl, t = Th.of u.d ∧ u.ok (fun z => z ∈ bs) (fun z => z ∈ ls) ∧ u.dp ≤ n
  | 0, t, h => by cases h
  | n + 1, t, h => by
    by_cases ht : ∃ w rest, t = .tup (.str w :: rest)
    rotate_left
    · rw [withinT_no fun w r e => ht ⟨w, r, e⟩] at h; cases h
    obtain ⟨w, rest, rfl⟩ := ht
    rw [withinT] at h
    by_cases h0 : valsIn w = some 0
    · rw [if_pos h0] at h
      have hw : w ∈ wPlain := by
        unfold valsIn at h0
        by_cases hh : w ∈ wPlain
        · exact hh
        · rw [if_neg hh] at h0
          split at h0
          · cases h0
          · split at h0 <;> cases h0
      match rest, h with
      | [y], h =>
        rw [plainT] at h
        by_cases hn : w = Str.ofString "number"
        · rw [if_pos hn] at h
          obtain ⟨i, rfl, h1⟩ := numT_int h
          exact ⟨.num i, by rw [hn]; rfl, h1, by simp [Vl.dp]⟩
        · rw [if_neg hn] at h
          rcases plain_cases hw hn with hb | hs
          · rw [if_pos hb] at h
            obtain ⟨z, rfl, hz⟩ := oneT_str h
            exact ⟨.box z, by rw [hb]; rfl, hz, by simp [Vl.dp]⟩
          · rw [if_neg (by rw [hs]; decide)] at h
            obtain ⟨z, rfl, hz⟩ := oneT_str h
            exact ⟨.size z, by rw [hs]; rfl, hz, by simp [Vl.dp]⟩
    · rw [if_neg h0] at h
      have hw : w ∉ wPlain := fun hh => h0 (by unfold valsIn; rw [if_pos hh])
      by_cases hi : w = Str.ofString "item"
      · subst hi
        by_cases hl : rest.length = 2
        · match rest, hl with
          | [y, z], _ =>
            rw [restT_item2, Bool.and_eq_true] at h
            obtain ⟨s, rfl, hs⟩ := oneT_str h.1
            obtain ⟨u, rfl, hu, hd⟩ := vl_of n z h.2
            exact ⟨.item s u, rfl, ⟨hs, hu⟩, by rw [Vl.dp]; omega⟩
        · rw [restT_item hl] at h; cases h
      · by_cases hn : w = Str.ofString "not"
        · subst hn
          rw [restT_not, Bool.and_eq_true, decide_eq_true_eq] at h
          match rest, h with
          | [y], h =>
            obtain ⟨u, rfl, hu, hd⟩ := vl_of n y (by simpa using h.2)
            exact ⟨.neg u, rfl, hu, by rw [Vl.dp]; omega⟩
          | [], h => simp at h
          | _ :: _ :: _, h => simp at h
        · rw [restT_two hw hi hn, Bool.and_eq_true, Bool.and_eq_true, decide_eq_true_eq, decide_eq_true_eq] at h
          match rest, h with
          | [y, z], h =>
            have h2 := h.2.2
            simp only [List.all_cons, List.all_nil, Bool.and_true, Bool.and_eq_true] at h2
            obtain ⟨u, rfl, hu, hd⟩ := vl_of n y h2.1
            obtain ⟨v, rfl, hv, he⟩ := vl_of n z h2.2
            exact ⟨.bin w u v, rfl, ⟨bin_two h.1, hu, hv⟩, by rw [Vl.dp]; omega⟩
          | [], h => simp at h
          | [_], h => simp at h
          | _ :: _ :: _ :: _, h => simp at h
/-- and back -/
theorem within_of {bs ls : List Str} : ∀ (n : Nat) (u : Vl), u.ok (fun z => z ∈ bs) (fun z => z ∈ ls) → u.dp ≤ n → withinT bs ls n (Th.of u.d) = true
  | 0, u, _, h => by have : 1 ≤ u.dp := by cases u <;> simp [Vl.dp]
                     omega
  | n + 1, .num i, h, _ => by
    show withinT bs ls (n + 1) (.tup (.str (Str.ofString "number") :: [.int i])) = true
    rw [withinT, if_pos (by decide), plainT, if_pos rfl]
    show (decide (0 ≤ i) && decide (i < 1000000)) = true
    rw [decide_eq_true h.1, decide_eq_true h.2]; rfl
  | n + 1, .box z, h, _ => by
    show withinT bs ls (n + 1) (.tup (.str (Str.ofString "box") :: [.str z])) = true
    rw [withinT, if_pos (by decide), plainT, if_neg (by decide), if_pos rfl]
    exact decide_eq_true h
  | n + 1, .size z, h, _ => by
    show withinT bs ls (n + 1) (.tup (.str (Str.ofString "size") :: [.str z])) = true
    rw [withinT, if_pos (by decide), plainT, if_neg (by decide), if_neg (by decide)]
    exact decide_eq_true h
  | n + 1, .neg v, h, hd => by
    show withinT bs ls (n + 1) (.tup (.str (Str.ofString "not") :: [Th.of v.d])) = true
    rw [Vl.dp] at hd
    rw [withinT, if_neg (by decide), restT_not]
    simp only [List.length_singleton, List.all_cons, List.all_nil, Bool.and_true, decide_true, Bool.true_and]
    exact within_of n v h (by omega)
  | n + 1, .item z v, h, hd => by
    show withinT bs ls (n + 1) (.tup (.str (Str.ofString "item") :: [.str z, Th.of v.d])) = true
    rw [Vl.dp] at hd
    rw [withinT, if_neg (by decide), restT_item2, within_of n v h.2 (by omega), Bool.and_true]
    exact decide_eq_true h.1
  | n + 1, .bin w a b, h, hd => by
    show withinT bs ls (n + 1) (.tup (.str w :: [Th.of a.d, Th.of b.d])) = true
    rw [Vl.dp] at hd
    have hw := two_bin h.1
    have hp : w ∉ wPlain := by
      simp only [wTwo, List.mem_cons, List.not_mem_nil, or_false] at hw
      rcases hw with rfl | rfl | rfl | rfl | rfl | rfl | rfl <;> decide
    have hi : w ≠ Str.ofString "item" := by
      simp only [wTwo, List.mem_cons, List.not_mem_nil, or_false] at hw
      rcases hw with rfl | rfl | rfl | rfl | rfl | rfl | rfl <;> decide
    have hn : w ≠ Str.ofString "not" := by
      simp only [wTwo, List.mem_cons, List.not_mem_nil, or_false] at hw
      rcases hw with rfl | rfl | rfl | rfl | rfl | rfl | rfl <;> decide
    rw [withinT, if_neg (by rw [valsIn_two hw]; intro h; cases h), restT_two hp hi hn, decide_eq_true hw]
    simp only [List.length_cons, List.length_nil, List.all_cons, List.all_nil, Bool.and_true, decide_true, Bool.true_and]
    rw [within_of n a h.2.1 (by omega), within_of n b h.2.2 (by omega)]; rfl
theorem parts_inv {w : Str} {ks : List PK} (h : partsOf w = some ks) : (w, ks) ∈ esP ++ esB ++ esL ++ esA := by
  by_cases hx : ∃ e ∈ esP ++ esB ++ esL ++ esA, e.1 = w
  · obtain ⟨e, he, rfl⟩ := hx
    rw [es_some e he] at h
    cases h
    exact he
  · rw [es_none fun e he h' => hx ⟨e, he, h'⟩] at h; cases h
theorem fitsC {S : Sc} {row : Th → Bool} {k : PK} {ks : List PK} {ts : List Th} (h : fitsT S row (k :: ks) ts = true) : ∃ t us, ts = t :: us ∧ fitT S row k t = true ∧ fitsT S row ks us = true := by
  cases ts with
  | nil => cases h
  | cons t us => rw [fitsT, Bool.and_eq_true] at h; exact ⟨t, us, rfl, h.1, h.2⟩
theorem fitsN {S : Sc} {row : Th → Bool} {ts : List Th} (h : fitsT S row [] ts = true) : ts = [] := by
  cases ts with
  | nil => rfl
  | cons t us => cases h
def nmsOf (S : Sc) : Nms := { B := fun z => z ∈ S.bs, L := fun z => z ∈ S.ls, F := fun f n => valV (fnK S.fs) (.inr f) = some (.int n), Dr := fun z => isNm z = true, ins := S.ins }
theorem vl4_of {S : Sc} {row : Th → Bool} {t : Th} (h : fitT S row .val t = true) : ∃ u : Vl, t = Th.of u.d ∧ u.ok4 (nmsOf S) := by
  obtain ⟨u, h1, h2, h3⟩ := vl_of 4 t h
  exact ⟨u, h1, h2, h3⟩
theorem vls_of {S : Sc} : ∀ {ts : List Th}, ts.all (withinT S.bs S.ls 4) = true → ∃ us : List Vl, ts = Th.ofs (us.map Vl.d) ∧ ∀ u ∈ us, u.ok4 (nmsOf S)
  | [], _ => ⟨[], rfl, by simp⟩
  | t :: ts, h => by
    rw [List.all_cons, Bool.and_eq_true] at h
    obtain ⟨u, rfl, h2, h3⟩ := vl_of 4 t h.1
    obtain ⟨us, rfl, h4⟩ := vls_of h.2
    exact ⟨u :: us, rfl, fun x hx => (List.mem_cons.mp hx).elim (fun e => e ▸ ⟨h2, h3⟩) (h4 x)⟩
theorem name_of {t : Th} {S : Sc} {row : Th → Bool} (h : fitT S row .door t = true) : ∃ z, t = .str z ∧ isNm z = true := nameT_str h
theorem rw_of {S : Sc} (h3 : ∀ f i, valV (fnK S.fs) (.inr f) = some (.int i) → i ≤ 3) : ∀ (n : Nat) (t : Th), rowT S n t = true → ∃ r : Rw, t = Th.of r.d ∧ r.ok (nmsOf S) ∧ r.dpt ≤ n
  | 0, t, h => by cases h
  | n + 1, t, h => by
    by_cases ht : ∃ w rest, t = .tup (.str w :: rest)
    rotate_left
    · rw [rowT_no fun w r e => ht ⟨w, r, e⟩] at h; cases h
    obtain ⟨w, rest, rfl⟩ := ht
    have rows : ∀ ts : List Th, ts.all (rowT S n) = true → ∃ rs : List Rw, ts = Th.ofs (Rw.ds rs) ∧ Rw.oks (nmsOf S) rs ∧ Rw.dpts rs ≤ n := by
      intro ts
      induction ts with
      | nil => intro _; exact ⟨[], rfl, trivial, Nat.zero_le _⟩
      | cons t ts ih =>
        intro ha
        rw [List.all_cons, Bool.and_eq_true] at ha
        obtain ⟨r, rfl, h1, h2⟩ := rw_of h3 n t ha.1
        obtain ⟨rs, rfl, h4, h5⟩ := ih ha.2
        exact ⟨r :: rs, rfl, ⟨h1, h4⟩, by rw [Rw.dpts]; omega⟩
    rw [rowT] at h
    cases hp : partsOf w with
    | none => rw [hp] at h; cases h
    | some ks =>
      rw [hp] at h
      have h : ((!decide (w = Str.ofString "return") || S.ins) && (fitsT S (rowT S n) ks rest && (!decide (w = Str.ofString "call") || callT S rest))) = true := h
      rw [Bool.and_eq_true, Bool.and_eq_true] at h
      obtain ⟨hr, hf, hc⟩ := h
      have hm := parts_inv hp
      simp only [esP, esB, esL, esA, List.cons_append, List.nil_append, List.mem_cons, List.not_mem_nil, or_false, Prod.mk.injEq] at hm
      rcases hm with ⟨rfl, rfl⟩ | ⟨rfl, rfl⟩ | ⟨rfl, rfl⟩ | ⟨rfl, rfl⟩ | ⟨rfl, rfl⟩ | ⟨rfl, rfl⟩ | ⟨rfl, rfl⟩ | ⟨rfl, rfl⟩ | ⟨rfl, rfl⟩ | ⟨rfl, rfl⟩ | ⟨rfl, rfl⟩ | ⟨rfl, rfl⟩
      · obtain ⟨t1, u1, rfl, f1, g1⟩ := fitsC hf
        obtain rfl := fitsN g1
        obtain ⟨u, rfl, hu⟩ := vl4_of f1
        exact ⟨.tell u, rfl, hu, by simp [Rw.dpt]⟩
      · obtain ⟨t1, u1, rfl, f1, g1⟩ := fitsC hf
        obtain rfl := fitsN g1
        obtain ⟨u, rfl, hu⟩ := vl4_of f1
        exact ⟨.fail u, rfl, hu, by simp [Rw.dpt]⟩
      · obtain ⟨t1, u1, rfl, f1, g1⟩ := fitsC hf
        obtain rfl := fitsN g1
        obtain ⟨u, rfl, hu⟩ := vl4_of f1
        exact ⟨.ret u, rfl, ⟨(by simpa using hr : S.ins = true), hu⟩, by simp [Rw.dpt]⟩
      · obtain ⟨t1, u1, rfl, f1, g1⟩ := fitsC hf
        obtain ⟨t2, u2, rfl, f2, g2⟩ := fitsC g1
        obtain rfl := fitsN g2
        obtain ⟨x, rfl, hx⟩ := oneT_str f1
        obtain ⟨u, rfl, hu⟩ := vl4_of f2
        exact ⟨.set x u, rfl, ⟨hx, hu⟩, by simp [Rw.dpt]⟩
      · obtain ⟨t1, u1, rfl, f1, g1⟩ := fitsC hf
        obtain ⟨t2, u2, rfl, f2, g2⟩ := fitsC g1
        obtain rfl := fitsN g2
        obtain ⟨x, rfl, hx⟩ := oneT_str f1
        obtain ⟨l, rfl, hl⟩ := oneT_str f2
        exact ⟨.pop x l, rfl, ⟨hx, hl⟩, by simp [Rw.dpt]⟩
      · obtain ⟨t1, u1, rfl, f1, g1⟩ := fitsC hf
        obtain ⟨t2, u2, rfl, f2, g2⟩ := fitsC g1
        obtain rfl := fitsN g2
        obtain ⟨x, rfl, hx⟩ := oneT_str f1
        obtain ⟨d, rfl, hd⟩ := name_of f2
        exact ⟨.ask x d, rfl, ⟨hx, hd⟩, by simp [Rw.dpt]⟩
      · obtain ⟨t1, u1, rfl, f1, g1⟩ := fitsC hf
        obtain ⟨t2, u2, rfl, f2, g2⟩ := fitsC g1
        obtain ⟨t3, u3, rfl, f3, g3⟩ := fitsC g2
        obtain rfl := fitsN g3
        obtain ⟨x, rfl, hx⟩ := oneT_str f1
        obtain ⟨f, rfl, _⟩ := oneT_str f2
        obtain ⟨vs, rfl, hv⟩ := fitT_vals f3
        obtain ⟨us, rfl, hus⟩ := vls_of hv
        have hc : callT S [Th.str x, Th.str f, Th.tup (Th.ofs (List.map Vl.d us))] = true := by simpa using hc
        have hc : decide (valV (fnK S.fs) (.inr f) = some (.int (Th.ofs (us.map Vl.d)).length)) = true := hc
        rw [decide_eq_true_eq, Th.ofs_eq, List.length_map, List.length_map] at hc
        have := h3 f _ hc
        exact ⟨.call x f us, rfl, ⟨hx, hc, by omega, hus⟩, by simp [Rw.dpt]⟩
      · obtain ⟨t1, u1, rfl, f1, g1⟩ := fitsC hf
        obtain ⟨t2, u2, rfl, f2, g2⟩ := fitsC g1
        obtain rfl := fitsN g2
        obtain ⟨l, rfl, hl⟩ := oneT_str f1
        obtain ⟨u, rfl, hu⟩ := vl4_of f2
        exact ⟨.push l u, rfl, ⟨hl, hu⟩, by simp [Rw.dpt]⟩
      · obtain ⟨t1, u1, rfl, f1, g1⟩ := fitsC hf
        obtain ⟨t2, u2, rfl, f2, g2⟩ := fitsC g1
        obtain ⟨t3, u3, rfl, f3, g3⟩ := fitsC g2
        obtain rfl := fitsN g3
        obtain ⟨l, rfl, hl⟩ := oneT_str f1
        obtain ⟨u, rfl, hu⟩ := vl4_of f2
        obtain ⟨v, rfl, hv⟩ := vl4_of f3
        exact ⟨.put l u v, rfl, ⟨hl, hu, hv⟩, by simp [Rw.dpt]⟩
      · obtain ⟨t1, u1, rfl, f1, g1⟩ := fitsC hf
        obtain ⟨t2, u2, rfl, f2, g2⟩ := fitsC g1
        obtain ⟨t3, u3, rfl, f3, g3⟩ := fitsC g2
        obtain rfl := fitsN g3
        obtain ⟨u, rfl, hu⟩ := vl4_of f1
        obtain ⟨a, rfl, ha⟩ := fitT_rows f2
        obtain ⟨b, rfl, hb⟩ := fitT_rows f3
        obtain ⟨ra, rfl, a1, a2⟩ := rows a ha
        obtain ⟨rb, rfl, b1, b2⟩ := rows b hb
        exact ⟨.ife u ra rb, rfl, ⟨hu, a1, b1⟩, by rw [Rw.dpt]; omega⟩
      · obtain ⟨t1, u1, rfl, f1, g1⟩ := fitsC hf
        obtain ⟨t2, u2, rfl, f2, g2⟩ := fitsC g1
        obtain rfl := fitsN g2
        obtain ⟨u, rfl, hu⟩ := vl4_of f1
        obtain ⟨a, rfl, ha⟩ := fitT_rows f2
        obtain ⟨ra, rfl, a1, a2⟩ := rows a ha
        exact ⟨.whl u ra, rfl, ⟨hu, a1⟩, by rw [Rw.dpt]; omega⟩
      · obtain ⟨t1, u1, rfl, f1, g1⟩ := fitsC hf
        obtain ⟨t2, u2, rfl, f2, g2⟩ := fitsC g1
        obtain ⟨t3, u3, rfl, f3, g3⟩ := fitsC g2
        obtain rfl := fitsN g3
        obtain ⟨a, rfl, ha⟩ := fitT_rows f1
        obtain ⟨x, rfl, hx⟩ := oneT_str f2
        obtain ⟨b, rfl, hb⟩ := fitT_rows f3
        obtain ⟨ra, rfl, a1, a2⟩ := rows a ha
        obtain ⟨rb, rfl, b1, b2⟩ := rows b hb
        exact ⟨.tr ra x rb, rfl, ⟨hx, a1, b1⟩, by rw [Rw.dpt]; omega⟩
/-! how many rows -/
mutual
def cntT : Th → Nat
  | .tup [.str w, a, b] => if w = Str.ofString "while" then 1 + cntX b else 1
  | .tup [.str w, a, b, c] => if w = Str.ofString "if" then cntX b + cntX c + 1 else if w = Str.ofString "try" then cntX a + cntX c + 1 else 1
  | _ => 1
def cntX : Th → Nat
  | .tup xs => cntL xs
  | _ => 0
def cntL : List Th → Nat
  | [] => 0
  | x :: xs => cntT x + cntL xs
end
mutual
theorem cnt_of : ∀ r : Rw, cntT (Th.of r.d) = r.cnt
  | .set x v => by simp only [Rw.d, Th.of, Th.ofs, cntT]; rw [if_neg (by decide)]; rfl
  | .push l v => by simp only [Rw.d, Th.of, Th.ofs, cntT]; rw [if_neg (by decide)]; rfl
  | .pop x l => by simp only [Rw.d, Th.of, Th.ofs, cntT]; rw [if_neg (by decide)]; rfl
  | .put l v u => by simp only [Rw.d, Th.of, Th.ofs, cntT]; rw [if_neg (by decide), if_neg (by decide)]; rfl
  | .ask x d => by simp only [Rw.d, Th.of, Th.ofs, cntT]; rw [if_neg (by decide)]; rfl
  | .tell v => by simp only [Rw.d, Th.of, Th.ofs, cntT]; rfl
  | .fail v => by simp only [Rw.d, Th.of, Th.ofs, cntT]; rfl
  | .call x f vs => by simp only [Rw.d, Th.of, Th.ofs, cntT]; rw [if_neg (by decide), if_neg (by decide)]; rfl
  | .ret v => by simp only [Rw.d, Th.of, Th.ofs, cntT]; rfl
  | .ife v a b => by simp only [Rw.d, Th.of, Th.ofs, cntT, cntX, Rw.cnt]; rw [if_pos trivial, cnts_of a, cnts_of b]
  | .whl v a => by simp only [Rw.d, Th.of, Th.ofs, cntT, cntX, Rw.cnt]; rw [if_pos trivial, cnts_of a]; omega
  | .tr a x b => by simp only [Rw.d, Th.of, Th.ofs, cntT, cntX, Rw.cnt]; rw [if_neg (by decide), if_pos trivial, cnts_of a, cnts_of b]
theorem cnts_of : ∀ l : List Rw, cntL (Th.ofs (Rw.ds l)) = Rw.cnts l
  | [] => rfl
  | r :: l => by rw [Rw.ds, Th.ofs, cntL, cnt_of r, cnts_of l]; rfl
end
/-! the texts of rows -/
mutual
theorem rw_st {N : Nms} (h : N.nm) : ∀ r : Rw, r.ok N → stD r.d = true
  | .set x v, k => by simp only [Rw.d, stD, stDs, isNm_ok (h.1 x k.1), vl_st h.1 h.2.1 v k.2.1]; decide +kernel
  | .push l v, k => by simp only [Rw.d, stD, stDs, isNm_ok (h.2.1 l k.1), vl_st h.1 h.2.1 v k.2.1]; decide +kernel
  | .pop x l, k => by simp only [Rw.d, stD, stDs, isNm_ok (h.1 x k.1), isNm_ok (h.2.1 l k.2)]; decide +kernel
  | .put l v u, k => by simp only [Rw.d, stD, stDs, isNm_ok (h.2.1 l k.1), vl_st h.1 h.2.1 v k.2.1.1, vl_st h.1 h.2.1 u k.2.2.1]; decide +kernel
  | .ask x d, k => by simp only [Rw.d, stD, stDs, isNm_ok (h.1 x k.1), isNm_ok (h.2.2.2 d k.2)]; decide +kernel
  | .tell v, k => by simp only [Rw.d, stD, stDs, vl_st h.1 h.2.1 v k.1]; decide +kernel
  | .fail v, k => by simp only [Rw.d, stD, stDs, vl_st h.1 h.2.1 v k.1]; decide +kernel
  | .call x f vs, k => by
    have e : stDs (vs.map Vl.d) = true := stDs_all fun d hd => by obtain ⟨v, hv, rfl⟩ := List.mem_map.mp hd; exact vl_st h.1 h.2.1 v (k.2.2.2 v hv).1
    simp only [Rw.d, stD, stDs, isNm_ok (h.1 x k.1), isNm_ok (h.2.2.1 f _ k.2.1), e]; decide +kernel
  | .ret v, k => by simp only [Rw.d, stD, stDs, vl_st h.1 h.2.1 v k.2.1]; decide +kernel
  | .ife v a b, k => by simp only [Rw.d, stD, stDs, vl_st h.1 h.2.1 v k.1.1, rws_st h a k.2.1, rws_st h b k.2.2]; decide +kernel
  | .whl v a, k => by simp only [Rw.d, stD, stDs, vl_st h.1 h.2.1 v k.1.1, rws_st h a k.2]; decide +kernel
  | .tr a x b, k => by simp only [Rw.d, stD, stDs, isNm_ok (h.1 x k.1), rws_st h a k.2.1, rws_st h b k.2.2]; decide +kernel
theorem rws_st {N : Nms} (h : N.nm) : ∀ l : List Rw, Rw.oks N l → stDs (Rw.ds l) = true
  | [], _ => rfl
  | r :: l, k => by rw [Rw.ds, stDs, rw_st h r k.1, rws_st h l k.2]; rfl
end
/-! ### a whole program -/
def idxT (i : Nat) : Th → Th
  | .tup xs => xs.getD i .non
  | _ => .non
def rowsT : Th → List Th
  | .tup xs => xs
  | _ => []
def tak (fs : List Th) : List (Str × Int) := fs.map fun f => (firstT f, ((rowsT (idxT 1 f)).length : Int))
def scF (bs ls fs : List Th) (f : Th) : Sc := ⟨namesT bs ++ (strsT (idxT 1 f) ++ strsT (idxT 2 f)), namesT ls, tak fs, true⟩
def scM (bs ls fs : List Th) : Sc := ⟨namesT bs, namesT ls, tak fs, false⟩
def fineT (bs ls fs rs : List Th) : Bool := fs.all (fun f => (rowsT (idxT 3 f)).all (rowT (scF bs ls fs f) 5)) && rs.all (rowT (scM bs ls fs) 5)
def cntP (fs rs : List Th) : Nat := (fs.map fun f => cntX (idxT 3 f) + 1).sum + cntL rs
theorem fn_parts {ns : List Str} {f : Th} (h : fnT ns f = true) : ∃ a ps os rs, f = .tup [.str a, .tup ps, .tup os, .tup rs] ∧ isNm a = true ∧ ps.length ≤ 3 ∧ ps.all nameT = true ∧ os.length ≤ 3 ∧ os.all nameT = true := by
  match f, h with
  | .tup [a, p, o, r], h =>
    have h : (nameT a && (namsT 3 p && (namsT 3 o && (r.isa "tuple" && decide (ns ++ (strsT p ++ strsT o)).Nodup)))) = true := h
    simp only [Bool.and_eq_true] at h
    obtain ⟨h1, h2, h3, h4, _⟩ := h
    obtain ⟨z, rfl, hz⟩ := nameT_str h1
    obtain ⟨ps, rfl, pl, pa⟩ := namsT_tup h2
    obtain ⟨os, rfl, ol, oa⟩ := namsT_tup h3
    have : ∃ rs, r = .tup rs := by
      cases r with
      | tup rs => exact ⟨rs, rfl⟩
      | _ => cases h4
    obtain ⟨rs, rfl⟩ := this
    exact ⟨z, ps, os, rs, rfl, hz, pl, pa, ol, oa⟩
theorem names_of_all {ts : List Th} (h : ts.all nameT = true) : ∃ zs : List Str, ts = Th.ofs (zs.map D.str) ∧ (∀ z ∈ zs, isNm z = true) ∧ ts.map strT = zs := by
  induction ts with
  | nil => exact ⟨[], rfl, by simp, rfl⟩
  | cons t ts ih =>
    rw [List.all_cons, Bool.and_eq_true] at h
    obtain ⟨z, rfl, hz⟩ := nameT_str h.1
    obtain ⟨zs, rfl, h1, h2⟩ := ih h.2
    exact ⟨z :: zs, rfl, fun y hy => (List.mem_cons.mp hy).elim (fun e => e ▸ hz) (h1 y), by rw [List.map_cons, h2]; rfl⟩
theorem bx_of {ts : List Th} (h : ts.all boxT = true) : ∃ bx : List (Str × Int), ts = Th.ofs (bx.map bxD) ∧ (∀ p ∈ bx, isNm p.1 = true ∧ 0 ≤ p.2 ∧ p.2 < 1000000) ∧ namesT ts = bx.map (·.1) := by
  induction ts with
  | nil => exact ⟨[], rfl, by simp, rfl⟩
  | cons t ts ih =>
    rw [List.all_cons, Bool.and_eq_true] at h
    obtain ⟨bx, rfl, h1, h2⟩ := ih h.2
    match t, h.1 with
    | .tup [x, y], hb =>
      have hb : (nameT x && numT y) = true := hb
      rw [Bool.and_eq_true] at hb
      obtain ⟨z, rfl, hz⟩ := nameT_str hb.1
      obtain ⟨i, rfl, hi⟩ := numT_int hb.2
      exact ⟨(z, i) :: bx, rfl, fun y hy => (List.mem_cons.mp hy).elim (fun e => e ▸ ⟨hz, hi⟩) (h1 y), by rw [namesT, List.map_cons, ← namesT, h2]; rfl⟩
theorem ints_of {ts : List Th} (h : ts.all numT = true) : ∃ ns : List Int, ts = Th.ofs (ns.map D.int) ∧ ∀ n ∈ ns, 0 ≤ n ∧ n < 1000000 := by
  induction ts with
  | nil => exact ⟨[], rfl, by simp⟩
  | cons t ts ih =>
    rw [List.all_cons, Bool.and_eq_true] at h
    obtain ⟨i, rfl, hi⟩ := numT_int h.1
    obtain ⟨ns, rfl, h1⟩ := ih h.2
    exact ⟨i :: ns, rfl, fun y hy => (List.mem_cons.mp hy).elim (fun e => e ▸ hi) (h1 y)⟩
theorem ls_of {ts : List Th} (h : ts.all listT = true) : ∃ lx : List (Str × List Int), ts = Th.ofs (lx.map lsD) ∧ (∀ p ∈ lx, isNm p.1 = true ∧ p.2.length ≤ 12 ∧ ∀ n ∈ p.2, 0 ≤ n ∧ n < 1000000) ∧ namesT ts = lx.map (·.1) := by
  induction ts with
  | nil => exact ⟨[], rfl, by simp, rfl⟩
  | cons t ts ih =>
    rw [List.all_cons, Bool.and_eq_true] at h
    obtain ⟨lx, rfl, h1, h2⟩ := ih h.2
    match t, h.1 with
    | .tup [x, .tup ns], hb =>
      have hb : (nameT x && (decide (ns.length ≤ 12) && ns.all numT)) = true := hb
      simp only [Bool.and_eq_true, decide_eq_true_eq] at hb
      obtain ⟨z, rfl, hz⟩ := nameT_str hb.1
      obtain ⟨is, rfl, hi⟩ := ints_of hb.2.2
      have hl := hb.2.1
      rw [Th.ofs_eq, List.length_map, List.length_map] at hl
      exact ⟨(z, is) :: lx, rfl, fun y hy => (List.mem_cons.mp hy).elim (fun e => e ▸ ⟨hz, hl, hi⟩) (h1 y), by rw [namesT, List.map_cons, ← namesT, h2]; rfl⟩
    | .tup [x, .non], hb => simp [listT, numsT] at hb
    | .tup [x, .bl _], hb => simp [listT, numsT] at hb
    | .tup [x, .int _], hb => simp [listT, numsT] at hb
    | .tup [x, .str _], hb => simp [listT, numsT] at hb
    | .tup [x, .lst _], hb => simp [listT, numsT] at hb
    | .tup [x, .dic], hb => simp [listT, numsT] at hb
theorem tak_le {ns : List Str} {fs : List Th} (h : fs.all (fnT ns) = true) : ∀ f i, valV (fnK (tak fs)) (.inr f) = some (.int i) → i ≤ 3 ∧ isNm f = true := by
  induction fs with
  | nil => intro f i e; cases e
  | cons g fs ih =>
    intro f i e
    rw [List.all_cons, Bool.and_eq_true] at h
    obtain ⟨a, ps, os, rs, rfl, ha, pl, _⟩ := fn_parts h.1
    have e : valV ((.inr a, .int (ps.length : Int)) :: fnK (tak fs)) (.inr f) = some (.int i) := e
    by_cases hf : a = f
    · rw [valV_pos (p := (Sum.inr a, V.int (ps.length : Int))) (by rw [hf])] at e
      injection e with e; injection e with e
      exact ⟨by omega, hf ▸ ha⟩
    · rw [valV_neg (p := (Sum.inr a, V.int (ps.length : Int))) (fun e => hf (Sum.inr.inj e))] at e
      exact ih h.2 f i e
theorem rws_of {S : Sc} (h3 : ∀ f i, valV (fnK S.fs) (.inr f) = some (.int i) → i ≤ 3) {n : Nat} : ∀ {ts : List Th}, ts.all (rowT S n) = true → ∃ rs : List Rw, ts = Th.ofs (Rw.ds rs) ∧ Rw.oks (nmsOf S) rs ∧ Rw.dpts rs ≤ n
  | [], _ => ⟨[], rfl, trivial, Nat.zero_le _⟩
  | t :: ts, h => by
    rw [List.all_cons, Bool.and_eq_true] at h
    obtain ⟨r, rfl, h1, h2⟩ := rw_of h3 n t h.1
    obtain ⟨rs, rfl, h4, h5⟩ := rws_of h3 h.2
    exact ⟨r :: rs, rfl, ⟨h1, h4⟩, by rw [Rw.dpts]; omega⟩
theorem strsT_names {ps : List Th} (h : ps.all nameT = true) : ∀ z ∈ ps.map strT, isNm z = true := by
  obtain ⟨zs, _, h1, h2⟩ := names_of_all h
  rw [h2]; exact h1
theorem fs_of {bs ls : List Th} {all : List Th} (hall : all.all (fnT (namesT (bs ++ ls))) = true) (hb : ∀ z ∈ namesT bs, isNm z = true) (hl : ∀ z ∈ namesT ls, isNm z = true) :
    ∀ {fs : List Th}, fs.all (fnT (namesT (bs ++ ls))) = true → fs.all (fun f => (rowsT (idxT 3 f)).all (rowT (scF bs ls all f) 5)) = true →
    ∃ gs : List (Str × List Str × List Str × List Rw), fs = Th.ofs (gs.map fnD) ∧ stDs (gs.map fnD) = true ∧ (∀ g ∈ gs, Rw.dpts g.2.2.2 ≤ 5) ∧ (fs.map fun f => cntX (idxT 3 f) + 1).sum = fcnt gs
  | [], _, _ => ⟨[], rfl, rfl, by simp, rfl⟩
  | f :: fs, h, hr => by
    rw [List.all_cons, Bool.and_eq_true] at h hr
    obtain ⟨gs, e, g1, g2, g3⟩ := fs_of hall hb hl h.2 hr.2
    obtain ⟨a, ps, os, rs, rfl, ha, pl, pa, ol, oa⟩ := fn_parts h.1
    have h3 := tak_le hall
    obtain ⟨qs, rfl, k1, k2⟩ := rws_of (S := scF bs ls all (.tup [.str a, .tup ps, .tup os, .tup rs])) (fun f i e => (h3 f i e).1) hr.1
    obtain ⟨pz, rfl, p1, p2⟩ := names_of_all pa
    obtain ⟨oz, rfl, o1, o2⟩ := names_of_all oa
    have hnm : (nmsOf (scF bs ls all (.tup [.str a, .tup (Th.ofs (pz.map D.str)), .tup (Th.ofs (oz.map D.str)), .tup (Th.ofs (Rw.ds qs))]))).nm := by
      refine ⟨fun z hz => ?_, fun z hz => hl z hz, fun z n e => (h3 z n e).2, fun z hz => hz⟩
      have hz : z ∈ namesT bs ++ ((Th.ofs (pz.map D.str)).map strT ++ (Th.ofs (oz.map D.str)).map strT) := hz
      rw [p2, o2, List.mem_append, List.mem_append] at hz
      rcases hz with h | h | h
      · exact hb z h
      · exact p1 z h
      · exact o1 z h
    have s1 : stDs (pz.map D.str) = true := stDs_all fun d hd => by obtain ⟨z, hz, rfl⟩ := List.mem_map.mp hd; exact isNm_ok (p1 z hz)
    have s2 : stDs (oz.map D.str) = true := stDs_all fun d hd => by obtain ⟨z, hz, rfl⟩ := List.mem_map.mp hd; exact isNm_ok (o1 z hz)
    refine ⟨(a, pz, oz, qs) :: gs, by rw [e]; rfl, ?_, fun g hg => (List.mem_cons.mp hg).elim (fun e => e ▸ k2) (g2 g), ?_⟩
    · show (stD (fnD (a, pz, oz, qs)) && stDs (gs.map fnD)) = true
      rw [g1, Bool.and_true]
      simp only [fnD, stD, stDs, isNm_ok ha, s1, s2, rws_st hnm qs k1]; rfl
    · show cntL (Th.ofs (Rw.ds qs)) + 1 + (fs.map fun f => cntX (idxT 3 f) + 1).sum = Rw.cnts qs + 1 + fcnt gs
      rw [cnts_of, g3]
theorem pg_of {bs ls fs rs : List Th} (h1 : storesT (.tup bs) (.tup ls) = true) (h2 : fnsT (namesT (bs ++ ls)) (.tup fs) = true) (h3 : fineT bs ls fs rs = true) :
    ∃ p : Pg, Th.of p.d = .tup [.tup bs, .tup ls, .tup fs, .tup rs] ∧ stD p.d = true ∧ (∀ f ∈ p.fs, Rw.dpts f.2.2.2 ≤ 5) ∧ Rw.dpts p.rows ≤ 5 ∧ cntP fs rs = fcnt p.fs + Rw.cnts p.rows := by
  have h1 : ((decide (bs.length ≤ 6) && bs.all boxT) && ((decide (ls.length ≤ 3) && ls.all listT) && decide (namesT (bs ++ ls)).Nodup)) = true := h1
  have h2 : ((decide (fs.length ≤ 4) && fs.all (fnT (namesT (bs ++ ls)))) && decide (namesT fs).Nodup) = true := h2
  unfold fineT at h3
  simp only [Bool.and_eq_true] at h1 h2 h3
  obtain ⟨bx, rfl, b1, b2⟩ := bx_of h1.1.2
  obtain ⟨lx, rfl, l1, l2⟩ := ls_of h1.2.1.2
  have hb : ∀ z ∈ namesT (Th.ofs (bx.map bxD)), isNm z = true := fun z hz => by
    rw [b2] at hz
    obtain ⟨p, hp, rfl⟩ := List.mem_map.mp hz
    exact (b1 p hp).1
  have hl : ∀ z ∈ namesT (Th.ofs (lx.map lsD)), isNm z = true := fun z hz => by
    rw [l2] at hz
    obtain ⟨p, hp, rfl⟩ := List.mem_map.mp hz
    exact (l1 p hp).1
  obtain ⟨gs, g0, g1, g2, g3⟩ := fs_of h2.1.2 hb hl h2.1.2 h3.1
  have h4 := tak_le h2.1.2
  obtain ⟨qs, q0, k1, k2⟩ := rws_of (S := scM (Th.ofs (bx.map bxD)) (Th.ofs (lx.map lsD)) fs) (fun f i e => (h4 f i e).1) h3.2
  have hnm : (nmsOf (scM (Th.ofs (bx.map bxD)) (Th.ofs (lx.map lsD)) fs)).nm := ⟨hb, hl, fun z n e => (h4 z n e).2, fun z hz => hz⟩
  have s1 : stDs (bx.map bxD) = true := stDs_all fun d hd => by
    obtain ⟨p, hp, rfl⟩ := List.mem_map.mp hd
    simp only [bxD, stD, stDs, isNm_ok (b1 p hp).1]; rfl
  have s2 : stDs (lx.map lsD) = true := stDs_all fun d hd => by
    obtain ⟨p, hp, rfl⟩ := List.mem_map.mp hd
    have e : stDs (p.2.map D.int) = true := stDs_all fun d hd => by obtain ⟨n, _, rfl⟩ := List.mem_map.mp hd; rfl
    simp only [lsD, stD, stDs, isNm_ok (l1 p hp).1, e]; rfl
  refine ⟨⟨bx, lx, gs, qs⟩, ?_, ?_, g2, k2, ?_⟩
  · rw [g0, q0]; rfl
  · simp only [Pg.d, stD, stDs, s1, s2, g1, rws_st hnm qs k1]; rfl
  · unfold cntP
    rw [g3, q0, cnts_of]
def ShT (t1 t2 t3 t4 : Th) : Prop := storesT t1 t2 = true ∧ t4.isa "tuple" = true ∧ fnsT (namesT (rowsT t1 ++ rowsT t2)) t3 = true
def sp_progof (NP NR TL : Addr) : Sp := fun vs H Q E => ∃ v1 v2 v3 v4 t1 t2 t3 t4 F, vs = [v1, v2, v3, v4] ∧ Tq F H v1 t1 ∧ Tq F H v2 t2 ∧ Tq F H v3 t3 ∧ Tq F H v4 t4 ∧
  (¬ ShT t1 t2 t3 t4 → ∀ H', Chg [] H H' → E (.ref NP) none H') ∧
  (ShT t1 t2 t3 t4 → (fineT (rowsT t1) (rowsT t2) (rowsT t3) (rowsT t4) = false → ∀ H', Chg [] H H' → E (.ref NR) none H') ∧
    (fineT (rowsT t1) (rowsT t2) (rowsT t3) (rowsT t4) = true → cntP (rowsT t3) (rowsT t4) ≤ 62 ∧ (60 < cntP (rowsT t3) (rowsT t4) → ∀ H', Chg [] H H' → E (.ref TL) none H') ∧
      (cntP (rowsT t3) (rowsT t4) ≤ 60 → ∀ p H', Chg [] H H' → H' p = some (.tup [v1, v2, v3, v4]) → Q (.ref p) H')))
theorem stores_tup {t1 t2 : Th} (h : storesT t1 t2 = true) : ∃ bs ls, t1 = .tup bs ∧ t2 = .tup ls ∧ bs.length ≤ 6 ∧ ls.length ≤ 3 ∧ bs.all boxT = true ∧ ls.all listT = true := by
  match t1, t2, h with
  | .tup bs, .tup ls, h =>
    have h : ((decide (bs.length ≤ 6) && bs.all boxT) && ((decide (ls.length ≤ 3) && ls.all listT) && decide (namesT (bs ++ ls)).Nodup)) = true := h
    simp only [Bool.and_eq_true, decide_eq_true_eq] at h
    exact ⟨bs, ls, rfl, rfl, h.1.1, h.2.1.1, h.1.2, h.2.1.2⟩
theorem fns_tup {ns : List Str} {t : Th} (h : fnsT ns t = true) : ∃ fs, t = .tup fs ∧ fs.length ≤ 4 ∧ fs.all (fnT ns) = true ∧ (namesT fs).Nodup := by
  match t, h with
  | .tup fs, h =>
    have h : ((decide (fs.length ≤ 4) && fs.all (fnT ns)) && decide (namesT fs).Nodup) = true := h
    simp only [Bool.and_eq_true, decide_eq_true_eq] at h
    exact ⟨fs, rfl, h.1.1, h.1.2, h.2⟩
theorem isa_tup {t : Th} (h : t.isa "tuple" = true) : ∃ ts, t = .tup ts := by
  cases t with
  | tup ts => exact ⟨ts, rfl⟩
  | _ => cases h
theorem fn_at {F : Addr → Prop} {H : Hp} {x : V} {f : Th} {ns : List Str} (h : Tq F H x f) (hf : fnT ns f = true) : ∃ b b1 b2 x4, x = .ref b ∧ H b = some (.tup [.str (firstT f), .ref b1, .ref b2, x4]) ∧
    H b1 = some (.tup ((strsT (idxT 1 f)).map V.str)) ∧ H b2 = some (.tup ((strsT (idxT 2 f)).map V.str)) ∧ Tq F H x4 (.tup (rowsT (idxT 3 f))) ∧ (strsT (idxT 1 f)).length ≤ 3 ∧ (strsT (idxT 2 f)).length ≤ 3 ∧ (rowsT (idxT 1 f)).length = (strsT (idxT 1 f)).length := by
  obtain ⟨a, ps, os, rs, rfl, ha, pl, pa, ol, oa⟩ := fn_parts hf
  obtain ⟨b, xs, rfl, eb, rb⟩ := h.tupI
  obtain ⟨x1, x2, x3, x4, rfl, r1, r2, r3, r4⟩ := rb.four
  cases r1
  obtain ⟨b1, y1, rfl, e1, s1⟩ := r2.tupI
  obtain ⟨b2, y2, rfl, e2, s2⟩ := r3.tupI
  rw [strs_at s1 pa] at e1
  rw [strs_at s2 oa] at e2
  exact ⟨b, b1, b2, x4, rfl, eb, e1, e2, r4, by show (ps.map strT).length ≤ 3; rw [List.length_map]; exact pl, by show (os.map strT).length ≤ 3; rw [List.length_map]; exact ol, by show ps.length = (ps.map strT).length; rw [List.length_map]⟩
theorem tak_nodup {fs : List Th} (h : (namesT fs).Nodup) : mergeK [] (fnK (tak fs)) = fnK (tak fs) := by
  refine mergeK_nodup _ [] ?_
  rw [List.nil_append]
  unfold fnK tak
  rw [List.map_map, List.map_map]
  exact List.pairwise_map.mpr ((List.pairwise_map.mp h).imp fun h e => h (Sum.inr.inj e))
/-! ### k05: programs at the bounds -/
structure Sz where
  box : Nat
  lst : Nat
  thg : Nat
  fn : Nat
  nam : Nat
  dep : Nat
  row : Nat
  sgn : Nat
  num : Nat
  rws : Nat
def Sz.kv (z : Sz) : List (Key × V) := [(.inr (Str.ofString "box"), .int z.box), (.inr (Str.ofString "list"), .int z.lst), (.inr (Str.ofString "thing"), .int z.thg), (.inr (Str.ofString "function"), .int z.fn), (.inr (Str.ofString "name"), .int z.nam), (.inr (Str.ofString "deep"), .int z.dep), (.inr (Str.ofString "row"), .int z.row), (.inr (Str.ofString "sign"), .int z.sgn), (.inr (Str.ofString "number"), .int z.num), (.inr (Str.ofString "rows"), .int z.rws)]
def szW : List Str := [Str.ofString "box", Str.ofString "list", Str.ofString "thing", Str.ofString "function", Str.ofString "name", Str.ofString "deep", Str.ofString "row", Str.ofString "sign", Str.ofString "number", Str.ofString "rows"]
def Sz.base (r : Nat) : Sz := ⟨6, 3, 12, 4, 3, 4, 5, 6, 999999, r⟩
def Sz.at (z : Sz) : Nat → Nat
  | 0 => z.box
  | 1 => z.lst
  | 2 => z.thg
  | 3 => z.fn
  | 4 => z.nam
  | 5 => z.dep
  | 6 => z.row
  | 7 => z.sgn
  | 8 => z.num
  | _ => z.rws
def Sz.put (z : Sz) (n : Nat) : Nat → Sz
  | 0 => { z with box := n }
  | 1 => { z with lst := n }
  | 2 => { z with thg := n }
  | 3 => { z with fn := n }
  | 4 => { z with nam := n }
  | 5 => { z with dep := n }
  | 6 => { z with row := n }
  | 7 => { z with sgn := n }
  | 8 => { z with num := n }
  | _ => { z with rws := n }
theorem nat10 {k : Nat} (h : k < 10) : k = 0 ∨ k = 1 ∨ k = 2 ∨ k = 3 ∨ k = 4 ∨ k = 5 ∨ k = 6 ∨ k = 7 ∨ k = 8 ∨ k = 9 := by omega
theorem Sz.look (z : Sz) {k : Nat} {w : Str} (h : szW[k]? = some w) : valV z.kv (.inr w) = some (.int (z.at k)) := by
  have hk : k < 10 := (List.getElem?_eq_some_iff.mp h).1
  rcases nat10 hk with rfl | rfl | rfl | rfl | rfl | rfl | rfl | rfl | rfl | rfl <;> (injection h with h; subst h; rfl)
theorem Sz.put_kv (z : Sz) {k : Nat} {w : Str} (n : Nat) (h : szW[k]? = some w) : putK z.kv (.inr w) (.int n) = (z.put n k).kv := by
  have hk : k < 10 := (List.getElem?_eq_some_iff.mp h).1
  rcases nat10 hk with rfl | rfl | rfl | rfl | rfl | rfl | rfl | rfl | rfl | rfl <;> (injection h with h; subst h; rfl)
def szStep (zs : List Sz) : List Sz := zs.flatMap fun z => (List.range 10).flatMap fun i => [z.put (z.at i + 1) i, z.put (z.at i - 1) i]
def szN : Nat → List Sz
  | 0 => [Sz.base 60, Sz.base 59]
  | n + 1 => szStep (szN n)
def szAll : List Sz := szN 0 ++ (szN 1 ++ szN 2)
theorem sz_step {n k : Nat} {z : Sz} (hz : z ∈ szN n) (hk : k < 10) : z.put (z.at k + 1) k ∈ szN (n + 1) ∧ z.put (z.at k - 1) k ∈ szN (n + 1) := by
  constructor <;> exact List.mem_flatMap.mpr ⟨z, hz, List.mem_flatMap.mpr ⟨k, List.mem_range.mpr hk, by simp⟩⟩
def ltr (k : Nat) : Str := ⟨#[97 + k]⟩
def nmZ (z : Sz) (k : Nat) : Str := Txt.mul (ltr k) z.sgn
def valZ : Nat → Vl
  | 0 => .num 1
  | n + 1 => .bin "plus" (valZ n) (.num 0)
def rwZ (z : Sz) : Nat → Rw
  | 0 => .tell (valZ (z.dep - 1))
  | k + 1 => if k % 3 = 0 then .whl (.num 0) [rwZ z k] else if k % 3 = 1 then .ife (.num 1) [] [rwZ z k] else .tr [rwZ z k] (nmZ z 0) []
def nmsZ (z : Sz) : List Str := (List.range (2 * z.nam)).map fun k => Str.ofString "p" ++ ltr k
def fnZ (z : Sz) (k : Nat) : Str × List Str × List Str × List Rw := (Str.ofString "f" ++ ltr k, (nmsZ z).take z.nam, (nmsZ z).drop z.nam, [])
def callZ (z : Sz) (k : Nat) : Rw := .call (nmZ z 0) (Str.ofString "f" ++ ltr k) (List.replicate z.nam (.num 1))
def pgZ (z : Sz) : Pg where
  bx := (List.range z.box).map fun k => (nmZ z k, (z.num : Int))
  ls := (List.range z.lst).map fun k => (nmZ z (7 + k), List.replicate z.thg 1)
  fs := (List.range z.fn).map (fnZ z)
  rows := (rwZ z (z.row - 1) :: (List.range z.fn).map (callZ z)) ++ List.replicate (z.rws - (2 * z.fn + z.row)) (.tell (.num 1))
def dueZ (z : Sz) : Str :=
  if z.box > 6 ∨ z.lst > 3 ∨ z.thg > 12 then "program" else if z.fn > 4 ∨ z.nam > 3 then "program" else if z.sgn > 6 ∨ z.num > 999999 then "program" else
  if z.dep > 4 ∨ z.row > 5 then "row" else if z.rws > 60 then "long" else ""
def pgNb (p : Pg) : Bool := p.fs.all (fun f => decide (Rw.dpts f.2.2.2 ≤ 5)) && (decide (Rw.dpts p.rows ≤ 5) && decide (fcnt p.fs + Rw.cnts p.rows ≤ 62))
def okZ (z : Sz) : Bool :=
  let p := pgZ z
  let bs := Th.ofs (p.bx.map bxD)
  let ls := Th.ofs (p.ls.map lsD)
  let fs := Th.ofs (p.fs.map fnD)
  let rs := Th.ofs (Rw.ds p.rows)
  shD p.d && if storesT (.tup bs) (.tup ls) && fnsT (namesT (bs ++ ls)) (.tup fs) then
    if fineT bs ls fs rs then
      decide (cntP fs rs ≤ 62) && if 60 < cntP fs rs then decide (dueZ z = "long") else decide (dueZ z = "") && (pgNb p && decide ((trs p).length = z.rws ∧ p.d.dep ≤ 50))
    else decide (dueZ z = "row")
  else decide (dueZ z = "program")
def bdZ (z : Sz) : Bool := decide (4 ≤ z.box ∧ z.box ≤ 8 ∧ 1 ≤ z.lst ∧ z.lst ≤ 5 ∧ 10 ≤ z.thg ∧ z.thg ≤ 14 ∧ 2 ≤ z.fn ∧ z.fn ≤ 6 ∧ 1 ≤ z.nam ∧ z.nam ≤ 5 ∧ 2 ≤ z.dep ∧ z.dep ≤ 6) && decide (3 ≤ z.row ∧ z.row ≤ 7 ∧ 4 ≤ z.sgn ∧ z.sgn ≤ 8 ∧ 999997 ≤ z.num ∧ z.num ≤ 1000001 ∧ 57 ≤ z.rws ∧ z.rws ≤ 62)
theorem bdZ_all : ∀ z ∈ szAll, bdZ z = true := by decide +kernel
def sp_sizes (K : PySem.W.Frag) : Sp := fun vs H Q _ => ∃ a ns, vs = [.ref a] ∧ SqL K H a (List.map V.int ns) ∧ ns.length ≤ 63 ∧ ∀ p z H', z ∈ szAll → Chg [] H H' → H' p = some (.dK z.kv) → Q (.ref p) H'
def sp_lnm : Sp := fun vs H Q _ => ∃ p z, ∃ k : Nat, vs = [.ref p, .int k] ∧ H p = some (.dK (Sz.kv z)) ∧ bdZ z = true ∧ k < 16 ∧ Q (.str (nmZ z k)) H
def sp_lval : Sp := fun vs H Q _ => ∃ p z, vs = [.ref p] ∧ H p = some (.dK (Sz.kv z)) ∧ bdZ z = true ∧ ∀ v H', Chg [] H H' → Rp H' v (valZ (z.dep - 1)).d → Q v H'
def sp_lrw : Sp := fun vs H Q _ => ∃ p z, vs = [.ref p] ∧ H p = some (.dK (Sz.kv z)) ∧ bdZ z = true ∧ ∀ v H', Chg [] H H' → Rp H' v (rwZ z (z.row - 1)).d → Q v H'
def sp_lparts : Sp := fun vs H Q _ => ∃ p z, vs = [.ref p] ∧ H p = some (.dK (Sz.kv z)) ∧ bdZ z = true ∧ ∀ v H', Chg [] H H' → Rp H' v (pgZ z).d → Q v H'
def sp_ldue : Sp := fun vs H Q _ => ∃ p z, vs = [.ref p] ∧ H p = some (.dK (Sz.kv z)) ∧ bdZ z = true ∧ ∀ H', Chg [] H H' → Q (.str (dueZ z)) H'
def clsW : Nat → Str
  | 0 => "program"
  | 1 => "row"
  | _ => "long"
def sp_cls3 (C0 C1 C2 : Addr) : SpP := fun a cls d vs H Q E => vs = [.ref a] ∧ d = none ∧ ∃ k : Nat, ((k = 0 ∧ cls = .ref C0) ∨ (k = 1 ∧ cls = .ref C1) ∨ (k = 2 ∧ cls = .ref C2)) ∧ ∀ H', Chg [] H H' → Q (.str (clsW k)) H'
theorem szN_all {n : Nat} {z : Sz} (h : z ∈ szN n) (hn : n ≤ 2) : z ∈ szAll := by
  have : n = 0 ∨ n = 1 ∨ n = 2 := by omega
  rcases this with rfl | rfl | rfl
  · exact List.mem_append_left _ h
  · exact List.mem_append_right _ (List.mem_append_left _ h)
  · exact List.mem_append_right _ (List.mem_append_right _ h)
theorem bd_all {z : Sz} (h : bdZ z = true) : (4 ≤ z.box ∧ z.box ≤ 8 ∧ 1 ≤ z.lst ∧ z.lst ≤ 5 ∧ 10 ≤ z.thg ∧ z.thg ≤ 14 ∧ 2 ≤ z.fn ∧ z.fn ≤ 6 ∧ 1 ≤ z.nam ∧ z.nam ≤ 5 ∧ 2 ≤ z.dep ∧ z.dep ≤ 6) ∧ (3 ≤ z.row ∧ z.row ≤ 7 ∧ 4 ≤ z.sgn ∧ z.sgn ≤ 8 ∧ 999997 ≤ z.num ∧ z.num ≤ 1000001 ∧ 57 ≤ z.rws ∧ z.rws ≤ 62) := by
  unfold bdZ at h
  rw [Bool.and_eq_true, decide_eq_true_eq, decide_eq_true_eq] at h
  exact h
theorem at_bd {z : Sz} (h : bdZ z = true) (k : Nat) : 1 ≤ z.at k ∧ (k ≠ 8 → z.at k ≤ 100) := by
  have := bd_all h
  unfold Sz.at
  split <;> omega
theorem abc16 {k : Nat} (h : k < 16) : atI (Str.ofString "abcdefghijklmnop").cps.toList (k : Int) = some (97 + k : Nat) := by
  have : ∀ k : Nat, k < 16 → atI (Str.ofString "abcdefghijklmnop").cps.toList (k : Int) = some (97 + k : Nat) := by decide +kernel
  exact this k h
theorem dueP {z : Sz} (h : 6 < z.box ∨ 3 < z.lst ∨ 12 < z.thg ∨ 4 < z.fn ∨ 3 < z.nam ∨ 6 < z.sgn ∨ 999999 < z.num) : dueZ z = "program" := by
  unfold dueZ
  by_cases h1 : z.box > 6 ∨ z.lst > 3 ∨ z.thg > 12
  · rw [if_pos h1]
  rw [if_neg h1]
  by_cases h2 : z.fn > 4 ∨ z.nam > 3
  · rw [if_pos h2]
  rw [if_neg h2]
  rw [if_pos (by omega)]
theorem dueR {z : Sz} (h : ¬ (6 < z.box ∨ 3 < z.lst ∨ 12 < z.thg ∨ 4 < z.fn ∨ 3 < z.nam ∨ 6 < z.sgn ∨ 999999 < z.num)) (h2 : 4 < z.dep ∨ 5 < z.row) : dueZ z = "row" := by
  unfold dueZ
  rw [if_neg (by omega), if_neg (by omega), if_neg (by omega), if_pos h2]
theorem dueE {z : Sz} (h : ¬ (6 < z.box ∨ 3 < z.lst ∨ 12 < z.thg ∨ 4 < z.fn ∨ 3 < z.nam ∨ 6 < z.sgn ∨ 999999 < z.num)) (h2 : ¬ (4 < z.dep ∨ 5 < z.row)) : dueZ z = if 60 < z.rws then (Str.ofString "long") else (Str.ofString "") := by
  unfold dueZ
  rw [if_neg (by omega), if_neg (by omega), if_neg (by omega), if_neg h2]
theorem rpa_rep {H : Hp} {v : V} {d : D} {n : Nat} (h : Rp H v d) : RpA H (List.replicate n v) (List.replicate n d) := by
  induction n with
  | zero => exact .nil
  | succ n ih => rw [List.replicate_succ, List.replicate_succ]; exact .cons h ih
theorem nmZ_ok {z : Sz} (hb : bdZ z = true) {k : Nat} (hk : k < 16) : PyData.strOk (nmZ z k) = true := by
  have h : ∀ k : Nat, k < 16 → ∀ n : Nat, n < 9 → PyData.strOk (Txt.mul (ltr k) (n : Int)) = true := by decide +kernel
  exact h k hk z.sgn (by have := bd_all hb; omega)
theorem abc12 {k : Nat} (h : k < 12) : atI (Str.ofString "abcdefghijkl").cps.toList (k : Int) = some (97 + k : Nat) := by
  have : ∀ k : Nat, k < 12 → atI (Str.ofString "abcdefghijkl").cps.toList (k : Int) = some (97 + k : Nat) := by decide +kernel
  exact this k h
theorem abc8 {k : Nat} (h : k < 8) : atI (Str.ofString "abcdefgh").cps.toList (k : Int) = some (97 + k : Nat) := by
  have : ∀ k : Nat, k < 8 → atI (Str.ofString "abcdefgh").cps.toList (k : Int) = some (97 + k : Nat) := by decide +kernel
  exact this k h
theorem pk_ok {k : Nat} (h : k < 12) : PyData.strOk (Str.ofString "p" ++ ltr k) = true := by
  have : ∀ k : Nat, k < 12 → PyData.strOk (Str.ofString "p" ++ ltr k) = true := by decide +kernel
  exact this k h
theorem nms_len (z : Sz) : (nmsZ z).length = 2 * z.nam := by
  unfold nmsZ
  rw [List.length_map, List.length_range]
theorem nms_rp {H : Hp} {z : Sz} (hb : bdZ z = true) : RpA H ((nmsZ z).map V.str) ((nmsZ z).map D.str) := by
  have h : ∀ zs : List Str, (∀ w ∈ zs, PyData.strOk w = true) → RpA H (zs.map V.str) (zs.map D.str) := fun zs => by
    induction zs with
    | nil => exact fun _ => .nil
    | cons x l ih => exact fun h => .cons (.str (h x List.mem_cons_self)) (ih fun w hw => h w (List.mem_cons_of_mem _ hw))
  refine h _ fun w hw => ?_
  obtain ⟨k, hk, rfl⟩ := List.mem_map.mp hw
  have := bd_all hb
  exact pk_ok (by have := List.mem_range.mp hk; omega)
theorem ds_len (l : List Rw) : (Rw.ds l).length = l.length := by
  induction l with
  | nil => rfl
  | cons r l ih => rw [Rw.ds, List.length_cons, List.length_cons, ih]
theorem ds_app (l m : List Rw) : Rw.ds (l ++ m) = Rw.ds l ++ Rw.ds m := by
  induction l with
  | nil => rfl
  | cons r l ih => rw [List.cons_append, Rw.ds, Rw.ds, ih, List.cons_append]
theorem ds_rep (n : Nat) (r : Rw) : Rw.ds (List.replicate n r) = List.replicate n r.d := by
  induction n with
  | zero => rfl
  | succ n ih => rw [List.replicate_succ, List.replicate_succ, Rw.ds, ih]
theorem fk_ok {k : Nat} (h : k < 8) : PyData.strOk (Str.ofString "f" ++ ltr k) = true := by
  have : ∀ k : Nat, k < 8 → PyData.strOk (Str.ofString "f" ++ ltr k) = true := by decide +kernel
  exact this k h
theorem okZ_0 : ((szAll.drop 0).take 100).all okZ = true := by decide +kernel
theorem okZ_1 : ((szAll.drop 100).take 100).all okZ = true := by decide +kernel
theorem okZ_2 : ((szAll.drop 200).take 100).all okZ = true := by decide +kernel
theorem okZ_3 : ((szAll.drop 300).take 100).all okZ = true := by decide +kernel
theorem okZ_4 : ((szAll.drop 400).take 100).all okZ = true := by decide +kernel
theorem okZ_5 : ((szAll.drop 500).take 100).all okZ = true := by decide +kernel
theorem okZ_6 : ((szAll.drop 600).take 100).all okZ = true := by decide +kernel
theorem okZ_7 : ((szAll.drop 700).take 100).all okZ = true := by decide +kernel
theorem okZ_8 : (szAll.drop 800).all okZ = true := by decide +kernel
theorem all_split {α : Type} {f : α → Bool} {l : List α} (n m k : Nat) (e : n + m = k) (h1 : ((l.drop n).take m).all f = true) (h2 : (l.drop k).all f = true) : (l.drop n).all f = true := by
  subst e
  rw [← List.take_append_drop m (l.drop n), List.all_append, h1, List.drop_drop, h2]; rfl
theorem okZ_all : ∀ z ∈ szAll, okZ z = true := by
  have h8 := okZ_8
  have h7 := all_split 700 100 800 rfl okZ_7 h8
  have h6 := all_split 600 100 700 rfl okZ_6 h7
  have h5 := all_split 500 100 600 rfl okZ_5 h6
  have h4 := all_split 400 100 500 rfl okZ_4 h5
  have h3 := all_split 300 100 400 rfl okZ_3 h4
  have h2 := all_split 200 100 300 rfl okZ_2 h3
  have h1 := all_split 100 100 200 rfl okZ_1 h2
  have h0 := all_split 0 100 100 rfl okZ_0 h1
  exact List.all_eq_true.mp h0
theorem okZ_law {z : Sz} (h : okZ z = true) : shD (pgZ z).d = true ∧
    (¬ ShT (Th.of (.tup ((pgZ z).bx.map bxD))) (Th.of (.tup ((pgZ z).ls.map lsD))) (Th.of (.tup ((pgZ z).fs.map fnD))) (Th.of (.tup (Rw.ds (pgZ z).rows))) → dueZ z = "program") ∧
    (ShT (Th.of (.tup ((pgZ z).bx.map bxD))) (Th.of (.tup ((pgZ z).ls.map lsD))) (Th.of (.tup ((pgZ z).fs.map fnD))) (Th.of (.tup (Rw.ds (pgZ z).rows))) →
      (fineT (Th.ofs ((pgZ z).bx.map bxD)) (Th.ofs ((pgZ z).ls.map lsD)) (Th.ofs ((pgZ z).fs.map fnD)) (Th.ofs (Rw.ds (pgZ z).rows)) = false → dueZ z = "row") ∧
      (fineT (Th.ofs ((pgZ z).bx.map bxD)) (Th.ofs ((pgZ z).ls.map lsD)) (Th.ofs ((pgZ z).fs.map fnD)) (Th.ofs (Rw.ds (pgZ z).rows)) = true →
        cntP (Th.ofs ((pgZ z).fs.map fnD)) (Th.ofs (Rw.ds (pgZ z).rows)) ≤ 62 ∧
        (60 < cntP (Th.ofs ((pgZ z).fs.map fnD)) (Th.ofs (Rw.ds (pgZ z).rows)) → dueZ z = "long") ∧
        (cntP (Th.ofs ((pgZ z).fs.map fnD)) (Th.ofs (Rw.ds (pgZ z).rows)) ≤ 60 → dueZ z = "" ∧ PgN (pgZ z) ∧ (trs (pgZ z)).length = z.rws ∧ (pgZ z).d.dep ≤ 50))) := by
  unfold okZ at h
  simp only [Bool.and_eq_true] at h
  obtain ⟨h0, h⟩ := h
  refine ⟨h0, fun hn => ?_, fun hs => ?_⟩
  · rw [if_neg (fun c => hn ⟨c.1, rfl, c.2⟩)] at h
    exact of_decide_eq_true h
  · rw [if_pos ⟨hs.1, hs.2.2⟩] at h
    refine ⟨fun hf => ?_, fun hf => ?_⟩
    · rw [hf, if_neg (by decide)] at h
      exact of_decide_eq_true h
    · rw [if_pos hf] at h
      obtain ⟨h1, h⟩ := Bool.and_eq_true_iff.mp h
      refine ⟨of_decide_eq_true h1, fun hg => ?_, fun hg => ?_⟩
      · rw [if_pos hg] at h
        exact of_decide_eq_true h
      · rw [if_neg (by omega)] at h
        obtain ⟨h2, h⟩ := Bool.and_eq_true_iff.mp h
        obtain ⟨h3, h⟩ := Bool.and_eq_true_iff.mp h
        unfold pgNb at h3
        obtain ⟨a1, h3⟩ := Bool.and_eq_true_iff.mp h3
        obtain ⟨a2, a3⟩ := Bool.and_eq_true_iff.mp h3
        exact ⟨of_decide_eq_true h2, ⟨fun f hf => of_decide_eq_true (List.all_eq_true.mp a1 f hf), of_decide_eq_true a2, of_decide_eq_true a3⟩, (of_decide_eq_true h).1, (of_decide_eq_true h).2⟩
section
variable {P : Program} {w : World} {K : PySem.W.Frag} {mg : Str → Option Value} {base : Heap}
def cs (T : Txt K mg) : Cs := ⟨T.k_BoxPart.C, T.k_ListPart.C, T.k_DoorPart.C, T.k_FunctionPart.C, T.k_ValuePart.C, T.k_ValuesPart.C, T.k_RowsPart.C⟩
abbrev s_is_name : Stmt := topS 20
theorem sc_is_name : FnScope ["thing", "sign"] ["thing"] (defScope s_is_name) := ⟨rfl, rfl, rfl, by decide +kernel, rfl, by decide +kernel, by decide +kernel⟩
theorem ok_is_name (T : Txt K mg) (D : DefAt K mg "is_name" s_is_name) : Own P w K mg base "is_name" 1 ["thing"] (sp_isname) := by
  refine own_of D (fun _ _ _ _ _ _ us hl => match us, hl with | [_], _ => rfl) (fnW_of (N := ["thing", "sign"]) sc_is_name (fun vs H Q E h => ?_) (fun f cdv A outer s H vs Q E hr h => ?_))
  · obtain ⟨v, t, F, rfl, _⟩ := h; rfl
  · have nd := sc_is_name.nd
    have hu := L2H.roomH_of hr
    refine ⟨_, (pss_cons (ps_if (PW.pt (pw_or (pt_not (pt_u (K := K) (pe_callB (call_uisi (K := K)) (by rfl) T.n_isinstance (by decide +kernel) (pa_cons (pv 0) (pa_cons (pe_bltn (v := .ty "str") (by rfl) T.n_str (by decide +kernel) rfl) pa_nil))))) (pw_or1 (pt_not (pt_chain op_le op_le pe_int (pe_callB (call_ulen (K := K)) (by rfl) T.n_len (by decide +kernel) (pa_cons (pv 0) pa_nil)) (pe_con_ T.c_LONGEST_NAME rfl))))))
      (pss_one (ps_ret pe_bl)) pss_nil)
      (pss_cons (ps_for (passes_of rfl) rfl (pi_u (K := K) (pv 0)) (pg_name (i := 1) nd rfl (by first | exact Or.inl rfl | exact Or.inr rfl))
      (pss_one (ps_if (pt_cmpR (op_unin (K := K) hu) (pv 1) (pe_con_ T.c_LETTERS rfl) rfl)
      (pss_one (ps_ret pe_bl)) pss_nil)))
      (pss_one (ps_ret pe_bl)))), ?_⟩
    clear nd
    obtain ⟨v, t, F, rfl, ht, q⟩ := h
    cases ht with
    | str hl =>
      rename_i z
      walk_at "vs"
      refine v_len_s (line9 (by omega)) ?_
      walk_at "vs"
      refine v_iteD (fun h1 => ?_) (fun h1 => ?_)
      · walk_at "vs"
        refine v_iteN (fun h2 => ?_) (fun h2 => ?_)
        · walk_at "vs"
          have := q H .refl
          rw [nameT, isNm_short (by omega)] at this
          exact this
        · walk_at "vs"
          refine v_it_s ?_
          refine v_for_str (fun i σ H' => (∃ v2, σ = [some (.str z), v2]) ∧ H' = H ∧ ∀ (j x : Nat), j < i → z.cps.toList[j]? = some x → x ∈ (Str.ofString "abcdefghijklmnopqrstuvwxyz").cps.toList) ⟨⟨none, rfl⟩, rfl, by omega⟩ ?_ ?_
          · rintro i x σ H' hx ⟨⟨v2, rfl⟩, rfl, hp⟩
            walk_at "vs"
            refine v_nin_sg ?_
            walk_at "vs"
            refine v_iteN (fun hn => ?_) (fun hm => ?_)
            · walk_at "vs"
              have := q _ .refl
              rw [nameT, isNm_no hx hn] at this
              exact this
            · walk_at "vs"
              refine ⟨⟨_, rfl⟩, rfl, fun j y hj hy => ?_⟩
              by_cases e : j < i
              · exact hp j y e hy
              · have : j = i := by omega
                subst this
                rw [hx] at hy; cases hy; exact hm
          · rintro σ H' ⟨⟨v2, rfl⟩, rfl, hp⟩
            walk_at "vs"
            have := q _ .refl
            rw [nameT, isNm_yes (by omega) (by omega) hp] at this
            exact this
      · walk_at "vs"
        have := q H .refl
        rw [nameT, isNm_short (by omega)] at this
        exact this
    | tup e r => walk_at "vs"; refine v_isi_t_str e ?_; walk_at "vs"; exact q H .refl
    | lst f e r => walk_at "vs"; refine v_isi_l_str e ?_; walk_at "vs"; exact q H .refl
    | dic f e => walk_at "vs"; refine v_isi_d0 e (by simp [sixT]) (by decide) ?_; walk_at "vs"; exact q H .refl
    | non => walk_at "vs"; exact q H .refl
    | bl b => walk_at "vs"; exact q H .refl
    | int i => walk_at "vs"; exact q H .refl
abbrev s_is_number : Stmt := topS 21
theorem sc_is_number : FnScope ["thing"] ["thing"] (defScope s_is_number) := ⟨rfl, rfl, rfl, by decide +kernel, rfl, by decide +kernel, by decide +kernel⟩
theorem ok_is_number (T : Txt K mg) (D : DefAt K mg "is_number" s_is_number) : Own P w K mg base "is_number" 1 ["thing"] (sp_isnum) := by
  refine own_of D (fun _ _ _ _ _ _ us hl => match us, hl with | [_], _ => rfl) (fnW_of (N := ["thing"]) sc_is_number (fun vs H Q E h => ?_) (fun f cdv A outer s H vs Q E hr h => ?_))
  · obtain ⟨v, t, F, rfl, _⟩ := h; rfl
  · have nd := sc_is_number.nd
    have hu := L2H.roomH_of hr
    refine ⟨_, (pss_one (ps_ret (pe_and (pe_callB (call_uisi (K := K)) (by rfl) T.n_isinstance (by decide +kernel) (pa_cons (pv 0) (pa_cons (pe_bltn (v := .ty "int") (by rfl) T.n_int (by decide +kernel) rfl) pa_nil))) (pe_and (pe_notU (K := K) (pe_callB (call_uisi (K := K)) (by rfl) T.n_isinstance (by decide +kernel) (pa_cons (pv 0) (pa_cons (pe_bltn (v := .ty "bool") (by rfl) T.n_bool (by decide +kernel) rfl) pa_nil)))) (pe_one (pe_chain op_le op_le pe_int (pv 0) (pe_con_ T.c_GREATEST rfl))))))), ?_⟩
    clear nd
    obtain ⟨v, t, F, rfl, ht, q⟩ := h
    cases ht with
    | str hl => walk_at "vs"; exact q H .refl
    | tup e r => walk_at "vs"; refine v_isi_t_int e ?_; walk_at "vs"; exact q H .refl
    | lst f e r => walk_at "vs"; refine v_isi_l_int e ?_; walk_at "vs"; exact q H .refl
    | dic f e => walk_at "vs"; refine v_isi_d0 e (by simp [sixT]) (by decide) ?_; walk_at "vs"; exact q H .refl
    | non => walk_at "vs"; exact q H .refl
    | bl b => walk_at "vs"; exact q H .refl
    | int i =>
      have := q H .refl
      walk_at "vs"
      refine v_iteD (fun h1 => ?_) (fun h1 => ?_)
      · walk_at "vs"
        rw [numT, decide_eq_true h1, Bool.true_and, show decide (i < 1000000) = decide (i ≤ 999999) from decide_eq_decide.mpr (by omega)] at this
        exact this
      · rw [numT, decide_eq_false h1] at this
        exact this
abbrev s_is_one_of : Stmt := topS 22
theorem sc_is_one_of : FnScope ["thing", "names"] ["thing", "names"] (defScope s_is_one_of) := ⟨rfl, rfl, rfl, by decide +kernel, rfl, by decide +kernel, by decide +kernel⟩
theorem ok_is_one_of (T : Txt K mg) (D : DefAt K mg "is_one_of" s_is_one_of) : Own P w K mg base "is_one_of" 1 ["thing", "names"] (sp_oneof) := by
  refine own_of D (fun _ _ _ _ _ _ us hl => match us, hl with | [_, _], _ => rfl) (fnW_of (N := ["thing", "names"]) sc_is_one_of (fun vs H Q E h => ?_) (fun f cdv A outer s H vs Q E hr h => ?_))
  · obtain ⟨v, t, F, b, zs, rfl, _⟩ := h; rfl
  · have nd := sc_is_one_of.nd
    have hu := L2H.roomH_of hr
    refine ⟨_, (pss_one (ps_ret (pe_and (pe_callB (call_uisi (K := K)) (by rfl) T.n_isinstance (by decide +kernel) (pa_cons (pv 0) (pa_cons (pe_bltn (v := .ty "str") (by rfl) T.n_str (by decide +kernel) rfl) pa_nil))) (pe_one (pe_cmpR (op_uin (K := K) hu) (pv 0) (pv 1) rfl))))), ?_⟩
    clear nd
    obtain ⟨v, t, F, b, zs, rfl, ht, hb, q⟩ := h
    walk_at "vs"
    refine v_isi_th ht (by simp [sixT]) ?_
    cases ht with
    | str hl =>
      walk_at "vs"
      refine v_iteT ?_
      walk_at "vs"
      refine v_in_l (SqL.of hb) rfl (RT.flat_strs zs) ?_
      rw [inV_strs]
      exact q H .refl
    | tup e r => walk_at "vs"; refine v_iteF ?_; exact q H .refl
    | lst f e r => walk_at "vs"; refine v_iteF ?_; exact q H .refl
    | dic f e => walk_at "vs"; refine v_iteF ?_; exact q H .refl
    | non => walk_at "vs"; refine v_iteF ?_; exact q H .refl
    | bl b => walk_at "vs"; refine v_iteF ?_; exact q H .refl
    | int i => walk_at "vs"; refine v_iteF ?_; exact q H .refl
abbrev s_values_in : Stmt := topS 23
theorem sc_values_in : FnScope ["word"] ["word"] (defScope s_values_in) := ⟨rfl, rfl, rfl, by decide +kernel, rfl, by decide +kernel, by decide +kernel⟩
theorem ok_values_in (T : Txt K mg) (D : DefAt K mg "values_in" s_values_in) : Own P w K mg base "values_in" 1 ["word"] (sp_valsin) := by
  refine own_of D (fun _ _ _ _ _ _ us hl => match us, hl with | [_], _ => rfl) (fnW_of (N := ["word"]) sc_values_in (fun vs H Q E h => ?_) (fun f cdv A outer s H vs Q E hr h => ?_))
  · obtain ⟨w, rfl, _⟩ := h; rfl
  · have nd := sc_values_in.nd
    have hu := L2H.roomH_of hr
    refine ⟨_, (pss_cons (ps_if (pt_cmpR (op_uin (K := K) hu) (pv 0) (pe_tup (pa_cons pe_str (pa_cons pe_str (pa_cons pe_str pa_nil)))) rfl)
      (pss_one (ps_ret pe_int)) pss_nil)
      (pss_cons (ps_if (pt_cmpR (op_uin (K := K) hu) (pv 0) (pe_tup (pa_cons pe_str (pa_cons pe_str pa_nil))) rfl)
      (pss_one (ps_ret pe_int)) pss_nil)
      (pss_cons (ps_if (pt_cmpR (op_uin (K := K) hu) (pv 0) (pe_tup (pa_cons pe_str (pa_cons pe_str (pa_cons pe_str (pa_cons pe_str (pa_cons pe_str (pa_cons pe_str (pa_cons pe_str pa_nil)))))))) rfl)
      (pss_one (ps_ret pe_int)) pss_nil)
      (pss_one (ps_ret pe_non))))), ?_⟩
    clear nd
    obtain ⟨w, rfl, q⟩ := h
    walk_at "vs"
    refine v_newT (line9 (by show 3 ≤ 10000; decide)) fun t1 H1 n1 c1 h1 => ?_
    refine v_in_t (SqT.of h1) rfl rfl ?_
    rw [show [V.str (Str.ofString "number"), V.str (Str.ofString "box"), V.str (Str.ofString "size")] = wPlain.map V.str from rfl, inV_strs]
    walk_at "vs"
    refine v_iteD (fun hm => ?_) (fun hm => ?_)
    · walk_at "vs"
      have := q H1 c1
      rw [valsV, valsIn, if_pos hm] at this
      exact this
    walk_at "vs"
    refine v_newT (line9 (by show 2 ≤ 10000; decide)) fun t2 H2 n2 c2 h2 => ?_
    refine v_in_t (SqT.of h2) rfl rfl ?_
    rw [show [V.str (Str.ofString "not"), V.str (Str.ofString "item")] = wOne.map V.str from rfl, inV_strs]
    walk_at "vs"
    refine v_iteD (fun hm2 => ?_) (fun hm2 => ?_)
    · walk_at "vs"
      have := q H2 (c1.trans c2)
      rw [valsV, valsIn, if_neg hm, if_pos hm2] at this
      exact this
    walk_at "vs"
    refine v_newT (line9 (by show 7 ≤ 10000; decide)) fun t3 H3 n3 c3 h3 => ?_
    refine v_in_t (SqT.of h3) rfl rfl ?_
    rw [show [V.str (Str.ofString "plus"), V.str (Str.ofString "minus"), V.str (Str.ofString "times"), V.str (Str.ofString "over"), V.str (Str.ofString "rest"), V.str (Str.ofString "less"), V.str (Str.ofString "same")] = wTwo.map V.str from rfl, inV_strs]
    walk_at "vs"
    refine v_iteD (fun hm3 => ?_) (fun hm3 => ?_)
    · walk_at "vs"
      have := q H3 ((c1.trans c2).trans c3)
      rw [valsV, valsIn, if_neg hm, if_neg hm2, if_pos hm3] at this
      exact this
    · walk_at "vs"
      have := q H3 ((c1.trans c2).trans c3)
      rw [valsV, valsIn, if_neg hm, if_neg hm2, if_neg hm3] at this
      exact this
abbrev s_is_plain : Stmt := topS 24
theorem sc_is_plain : FnScope ["thing", "boxes", "lists"] ["thing", "boxes", "lists"] (defScope s_is_plain) := ⟨rfl, rfl, rfl, by decide +kernel, rfl, by decide +kernel, by decide +kernel⟩
theorem ok_is_plain (T : Txt K mg) (D : DefAt K mg "is_plain" s_is_plain) (O_is_number : Own P w K mg base "is_number" 1 ["thing"] (sp_isnum)) (O_is_one_of : Own P w K mg base "is_one_of" 1 ["thing", "names"] (sp_oneof)) : Own P w K mg base "is_plain" 2 ["thing", "boxes", "lists"] (sp_plain) := by
  refine own_of D (fun _ _ _ _ _ _ us hl => match us, hl with | [_, _, _], _ => rfl) (fnW_of (N := ["thing", "boxes", "lists"]) sc_is_plain (fun vs H Q E h => ?_) (fun f cdv A outer s H vs Q E hr h => ?_))
  · obtain ⟨a, xs, w, rest, F, b1, b2, bs, ls, rfl, _⟩ := h; rfl
  · have nd := sc_is_plain.nd
    have hu := L2H.roomH_of hr
    have TK : L2N.Takes (cxOf (L2N.CX P w) P w K mg base ["thing", "boxes", "lists"] "is_plain" (defScope s_is_plain) f cdv A outer s H E) (fun cls d _ H => E cls d H) := L2N.takes_of rfl rfl rfl rfl
    refine ⟨_, (pss_cons (ps_if (pt_cmpR (op_une (K := K) hu) (pe_callB (call_ulen (K := K)) (by rfl) T.n_len (by decide +kernel) (pa_cons (pv 0) pa_nil)) pe_int (nomark _))
      (pss_one (ps_ret pe_bl)) pss_nil)
      (pss_cons (ps_if (pt_cmpR (op_ueq (K := K) hu) (pe_ix (ix_u (K := K) hu) (pv 0) pe_int (fun _ _ => rfl)) pe_str (nomark _))
      (pss_one (ps_ret (pe_own O_is_number (by decide) hr rfl (fun σ => L2N.passAt TK σ) (pa_cons (pe_ix (ix_u (K := K) hu) (pv 0) pe_int (fun _ _ => rfl)) pa_nil)))) pss_nil)
      (pss_cons (ps_if (pt_cmpR (op_ueq (K := K) hu) (pe_ix (ix_u (K := K) hu) (pv 0) pe_int (fun _ _ => rfl)) pe_str (nomark _))
      (pss_one (ps_ret (pe_own O_is_one_of (by decide) hr rfl (fun σ => L2N.passAt TK σ) (pa_cons (pe_ix (ix_u (K := K) hu) (pv 0) pe_int (fun _ _ => rfl)) (pa_cons (pv 1) pa_nil))))) pss_nil)
      (pss_one (ps_ret (pe_own O_is_one_of (by decide) hr rfl (fun σ => L2N.passAt TK σ) (pa_cons (pe_ix (ix_u (K := K) hu) (pv 0) pe_int (fun _ _ => rfl)) (pa_cons (pv 2) pa_nil)))))))), ?_⟩
    clear nd
    obtain ⟨a, xs, w, rest, F, b1, b2, bs, ls, rfl, e, r, hw, h1, h2, q⟩ := h
    have hl := r.length
    walk_at "vs"
    refine v_len_t (SqT.of e) ?_
    walk_at "vs"
    refine v_iteN (fun hn => ?_) (fun hn => ?_)
    · walk_at "vs"
      have := q H .refl
      match rest, hl with
      | [], _ => exact this
      | [y], hl => simp at hl; omega
      | _ :: _ :: _, _ => exact this
    match rest, xs, r, hl with
    | [], _, _, hl => simp at hl; omega
    | _ :: _ :: _, _, _, hl => simp at hl; omega
    | [y], [x0, x1], .cons r0 (.cons r1 .nil), _ =>
      cases r0
      walk_at "vs"
      refine v_ix_t (SqT.of e) (atI_0 _ _) ?_
      walk_at "vs"
      refine v_iteD (fun hm => ?_) (fun hm => ?_)
      · walk_at "vs"
        refine v_ix_t (SqT.of e) (atI_1 _ _ _) ?_
        walk_at "vs"
        refine ⟨x1, y, F, rfl, r1, fun H1 c1 => ?_⟩
        have := q H1 c1
        rw [plainT, if_pos hm] at this
        exact this
      walk_at "vs"
      refine v_ix_t (SqT.of e) (atI_0 _ _) ?_
      walk_at "vs"
      refine v_iteD (fun hm2 => ?_) (fun hm2 => ?_)
      · walk_at "vs"
        refine v_ix_t (SqT.of e) (atI_1 _ _ _) ?_
        walk_at "vs"
        refine ⟨x1, y, F, b1, bs, rfl, r1, h1, fun H1 c1 => ?_⟩
        have := q H1 c1
        rw [plainT, if_neg hm, if_pos hm2] at this
        exact this
      · walk_at "vs"
        refine v_ix_t (SqT.of e) (atI_1 _ _ _) ?_
        walk_at "vs"
        refine ⟨x1, y, F, b2, ls, rfl, r1, h2, fun H1 c1 => ?_⟩
        have := q H1 c1
        rw [plainT, if_neg hm, if_neg hm2] at this
        exact this
abbrev s_is_within : Stmt := topS 25
theorem sc_is_within : FnScope ["thing", "boxes", "lists", "deep", "count", "parts", "part"] ["thing", "boxes", "lists", "deep"] (defScope s_is_within) := ⟨rfl, rfl, rfl, by decide +kernel, rfl, by decide +kernel, by decide +kernel⟩
theorem st_is_within (T : Txt K mg) (D : DefAt K mg "is_within" s_is_within) (O_values_in : Own P w K mg base "values_in" 1 ["word"] (sp_valsin)) (O_is_plain : Own P w K mg base "is_plain" 2 ["thing", "boxes", "lists"] (sp_plain)) (O_is_one_of : Own P w K mg base "is_one_of" 1 ["thing", "names"] (sp_oneof)) (n : Nat) (O_is_within : Own P w K mg base "is_within" (3 + n) ["thing", "boxes", "lists", "deep"] (sp_iswithin n)) : Own P w K mg base "is_within" (3 + n + 1) ["thing", "boxes", "lists", "deep"] (sp_iswithin (n + 1)) := by
  refine own_of D (fun _ _ _ _ _ _ us hl => match us, hl with | [_, _, _, _], _ => rfl) (fnW_of (k := 3 + n) (N := ["thing", "boxes", "lists", "deep", "count", "parts", "part"]) sc_is_within (fun vs H Q E h => ?_) (fun f cdv A outer s H vs Q E hr h => ?_))
  · obtain ⟨v, t, F, b1, b2, bs, ls, n, rfl, _⟩ := h; rfl
  · have nd := sc_is_within.nd
    have hu := L2H.roomH_of hr
    have TK : L2N.Takes (cxOf (L2N.CX P w) P w K mg base ["thing", "boxes", "lists", "deep", "count", "parts", "part"] "is_within" (defScope s_is_within) f cdv A outer s H E) (fun cls d _ H => E cls d H) := L2N.takes_of rfl rfl rfl rfl
    refine ⟨_, (pss_cons (ps_if (PW.pt (pw_or (pt_cmpR (op_ueq (K := K) hu) (pv 3) pe_int (nomark _)) (pw_or (pt_not (pt_u (K := K) (pe_callB (call_uisi (K := K)) (by rfl) T.n_isinstance (by decide +kernel) (pa_cons (pv 0) (pa_cons (pe_bltn (v := .ty "tuple") (by rfl) T.n_tuple (by decide +kernel) rfl) pa_nil))))) (pw_or (pt_cmpR (op_ueq (K := K) hu) (pe_callB (call_ulen (K := K)) (by rfl) T.n_len (by decide +kernel) (pa_cons (pv 0) pa_nil)) pe_int (nomark _)) (pw_or1 (pt_not (pt_u (K := K) (pe_callB (call_uisi (K := K)) (by rfl) T.n_isinstance (by decide +kernel) (pa_cons (pe_ix (ix_u (K := K) hu) (pv 0) pe_int (fun _ _ => rfl)) (pa_cons (pe_bltn (v := .ty "str") (by rfl) T.n_str (by decide +kernel) rfl) pa_nil))))))))))
      (pss_one (ps_ret pe_bl)) pss_nil)
      (pss_cons (ps_set (i := 4) nd rfl (by first | exact Or.inl rfl | exact Or.inr rfl) (pe_own O_values_in (by omega) hr rfl (fun σ => L2N.passAt TK σ) (pa_cons (pe_ix (ix_u (K := K) hu) (pv 0) pe_int (fun _ _ => rfl)) pa_nil)))
      (pss_cons (ps_if (pt_cmpR (op_ueq (K := K) hu) (pv 4) pe_int (nomark _))
      (pss_one (ps_ret (pe_own O_is_plain (by omega) hr rfl (fun σ => L2N.passAt TK σ) (pa_cons (pv 0) (pa_cons (pv 1) (pa_cons (pv 2) pa_nil)))))) pss_nil)
      (pss_cons (ps_set (i := 5) nd rfl (by first | exact Or.inl rfl | exact Or.inr rfl) (pe_slice (sl_u (K := K)) (pv 0) (po_some pe_int) po_none))
      (pss_cons (ps_if (pt_cmpR (op_ueq (K := K) hu) (pe_ix (ix_u (K := K) hu) (pv 0) pe_int (fun _ _ => rfl)) pe_str (nomark _))
      (pss_cons (ps_if (PW.pt (pw_or (pt_cmpR (op_une (K := K) hu) (pe_callB (call_ulen (K := K)) (by rfl) T.n_len (by decide +kernel) (pa_cons (pv 0) pa_nil)) pe_int (nomark _)) (pw_or1 (pt_not (pt_u (K := K) (pe_own O_is_one_of (by omega) hr rfl (fun σ => L2N.passAt TK σ) (pa_cons (pe_ix (ix_u (K := K) hu) (pv 0) pe_int (fun _ _ => rfl)) (pa_cons (pv 2) pa_nil))))))))
      (pss_one (ps_ret pe_bl)) pss_nil)
      (pss_one (ps_set (i := 5) nd rfl (by first | exact Or.inl rfl | exact Or.inr rfl) (pe_slice (sl_u (K := K)) (pv 0) (po_some pe_int) po_none)))) pss_nil)
      (pss_cons (ps_if (PW.pt (pw_or (pt_cmpR op_isN (pv 4) pe_non (nomark _)) (pw_or1 (pt_cmpR (op_une (K := K) hu) (pe_callB (call_ulen (K := K)) (by rfl) T.n_len (by decide +kernel) (pa_cons (pv 5) pa_nil)) (pv 4) (nomark _)))))
      (pss_one (ps_ret pe_bl)) pss_nil)
      (pss_cons (ps_for (passes_of rfl) rfl (pi_u (K := K) (pv 5)) (pg_name (i := 6) nd rfl (by first | exact Or.inl rfl | exact Or.inr rfl))
      (pss_one (ps_if (pt_not (pt_u (K := K) (pe_own O_is_within (by omega) hr rfl (fun σ => L2N.passAt TK σ) (pa_cons (pv 6) (pa_cons (pv 1) (pa_cons (pv 2) (pa_cons (pe_op op_sub (pv 3) pe_int) pa_nil)))))))
      (pss_one (ps_ret pe_bl)) pss_nil)))
      (pss_one (ps_ret pe_bl))))))))), ?_⟩
    clear nd
    obtain ⟨v, t, F, b1, b2, bs, ls, m, rfl, hm, ht, h1, h2, q⟩ := h
    walk_at "vs"
    cases m with
    | zero =>
      refine v_iteD (fun _ => ?_) (fun h => absurd rfl h)
      walk_at "vs"
      exact q H .refl
    | succ k =>
    refine v_iteD (fun h => absurd h (by omega)) (fun _ => ?_)
    walk_at "vs"
    refine v_isi_th ht (by simp [sixT]) ?_
    by_cases htp : ∃ ts, t = .tup ts
    rotate_left
    · rw [isa_no fun ys h => htp ⟨ys, h⟩]
      walk_at "vs"
      have := q H .refl
      rw [withinT_no fun w r h => htp ⟨_, h⟩] at this
      exact this
    obtain ⟨ts, rfl⟩ := htp
    obtain ⟨a, xs, rfl, e, r⟩ := ht.tupI
    have hl := r.length
    show Tru K (.bl true) H _
    walk_at "vs"
    refine v_len_t (SqT.of e) ?_
    walk_at "vs"
    match ts, xs, r, hl with
    | [], [], _, _ =>
      refine v_iteD (fun _ => ?_) (fun h => absurd rfl h)
      walk_at "vs"
      have := q H .refl
      rw [withinT_no (fun w r h => by cases h)] at this
      exact this
    | t0 :: rest, x0 :: xr, .cons r0 rr, hl =>
    refine v_iteD (fun h => absurd h (by rw [List.length_cons]; omega)) (fun _ => ?_)
    walk_at "vs"
    refine v_ix_t (SqT.of e) (atI_0 _ _) ?_
    walk_at "vs"
    refine v_isi_th r0 (by simp [sixT]) ?_
    by_cases hs : ∃ w, t0 = .str w
    rotate_left
    · rw [show t0.isa "str" = false from by cases t0 with | str w => exact absurd ⟨w, rfl⟩ hs | _ => rfl]
      walk_at "vs"
      have := q H .refl
      rw [withinT_no (fun w r h => by cases h; exact hs ⟨_, rfl⟩)] at this
      exact this
    obtain ⟨w, rfl⟩ := hs
    show Tru K (.bl true) H _
    cases r0
    walk_at "vs"
    refine v_ix_t (SqT.of e) (atI_0 _ _) ?_
    walk_at "vs"
    refine ⟨w, rfl, fun H1 c1 => ?_⟩
    walk_at "vs"
    have e1 := c1.tup e
    rw [withinT] at q
    refine v_eq_sc (by unfold valsV; cases valsIn w <;> rfl) ?_
    by_cases hv0 : valsIn w = some 0
    · rw [show decide (valsV w = .int 0) = true from by rw [valsV, hv0]; rfl]
      rw [if_pos hv0] at q
      walk_at "vs"
      exact ⟨a, _, w, rest, F, b1, b2, bs, ls, rfl, e1, (TqA.cons (.str (by assumption)) (rr.on0 c1)), hv0, c1.at h1, c1.at h2, fun H2 c2 => q H2 (c1.trans c2)⟩
    rw [show decide (valsV w = .int 0) = false from decide_eq_false (by unfold valsV; cases hv : valsIn w with
      | none => intro h; cases h
      | some n => intro h; cases n with
        | zero => exact hv0 hv
        | succ n => cases h)]
    rw [if_neg hv0] at q
    walk_at "vs"
    refine v_sl_t e1 fun p1 H2 c2 g2 => ?_
    rw [cut_1, List.drop_one, List.tail_cons] at g2
    have k2 := c1.trans c2
    walk_at "vp"
    refine v_join (fun σ H6 => ∃ (p : Addr) (ys : List V) (us : List Th), σ = [some (.ref a), some (.ref b1), some (.ref b2), some (.int ((k + 1 : Nat) : Int)), some (valsV w), some (.ref p), none] ∧ Chg [] H H6 ∧ H6 p = some (.tup ys) ∧ TqA F H6 ys us ∧
      (∀ H', Chg [] H H' → Q (.bl (tailT (withinT bs ls k) w us)) H')) ?_ ?_
    rotate_left
    · intro U hU
      walk_at "vs"
      refine v_ix_t (SqT.of (c2.tup e1)) (atI_0 _ _) ?_
      walk_at "vs"
      refine v_iteD (fun hi => ?_) (fun hi => ?_)
      · subst hi
        unfold restT at q
        rw [item_one] at q
        simp only [if_true] at q
        walk_at "vs"
        refine v_len_t (SqT.of (c2.tup e1)) ?_
        walk_at "vs"
        have hxr : xr.length = rest.length := rr.length
        refine v_iteN (fun h3 => ?_) (fun h3 => ?_)
        · walk_at "vs"
          rw [List.length_cons, hxr] at h3
          have := q H2 k2
          match rest, h3 with
          | [], _ => exact this
          | [_], _ => exact this
          | [_, _], h3 => exact absurd rfl h3
          | _ :: _ :: _ :: _, _ => exact this
        rw [List.length_cons, hxr] at h3
        match rest, xr, rr, h3 with
        | [], _, _, h3 => simp at h3
        | [_], _, _, h3 => simp at h3
        | _ :: _ :: _ :: _, _, _, h3 => simp at h3; omega
        | [y, z], [x1, x2], .cons r1 (.cons r2 .nil), _ =>
        walk_at "vs"
        refine v_ix_t (SqT.of (c2.tup e1)) (atI_1 _ _ _) ?_
        walk_at "vs"
        refine ⟨x1, y, F, b2, ls, rfl, r1.on0 k2, k2.at h2, fun H3 c3 => ?_⟩
        walk_at "vs"
        have k3 := k2.trans c3
        refine v_iteNB (fun hb => ?_) (fun hb => ?_)
        · walk_at "vs"
          have := q H3 k3
          simp only [hb, Bool.false_and] at this
          exact this
        walk_at "vs"
        refine v_sl_t (k3.tup e) fun p2 H4 c4 g4 => ?_
        rw [cut_2] at g4
        walk_at "vs"
        refine hU _ _ ⟨p2, [x2], [z], rfl, k3.trans c4, g4, .one (r2.on0 (k3.trans c4)), fun H' c' => ?_⟩
        have := q H' c'
        simp only [hb, Bool.true_and] at this
        unfold tailT
        rw [item_one]
        simpa using this
      · rw [rest_tail hi] at q
        walk_at "vs"
        exact hU _ _ ⟨p1, xr, rest, rfl, k2, g2, rr.on0 k2, q⟩
    rintro σ H6 ⟨p, ys, us, rfl, k6, hp6, hu6, q6⟩
    have hul := hu6.length
    walk_at "vs"
    refine ⟨rfl, ?_⟩
    cases hv : valsIn w with
    | none =>
      rw [show decide (valsV w = .non) = true from by rw [valsV, hv]; rfl]
      walk_at "vs"
      have := q6 H6 k6
      unfold tailT at this
      rw [hv] at this
      exact this
    | some n2 =>
    rw [show decide (valsV w = .non) = false from by rw [valsV, hv]; rfl]
    replace q6 : ∀ H', Chg [] H H' → Q (.bl (decide (us.length = n2) && us.all (withinT bs ls k))) H' := fun H' c => by have := q6 H' c; unfold tailT at this; rw [hv] at this; exact this
    have hvv : valsV w = .int n2 := by rw [valsV, hv]
    rw [hvv]
    walk_at "vs"
    refine v_len_t (SqT.of hp6) ?_
    walk_at "vs"
    refine v_iteN (fun hne => ?_) (fun heq => ?_)
    · walk_at "vs"
      have := q6 H6 k6
      rw [decide_eq_false (by omega), Bool.false_and] at this
      exact this
    rw [decide_eq_true (by omega : us.length = n2), Bool.true_and] at q6
    walk_at "vs"
    refine v_it_t (SqT.of hp6) ?_
    refine v_for_tup (xs := ys) (fun i σ H' => (∃ v6, σ = [some (.ref a), some (.ref b1), some (.ref b2), some (.int ((k + 1 : Nat) : Int)), some (.int n2), some (.ref p), v6]) ∧ Chg [] H6 H' ∧ ∀ d ∈ us.take i, withinT bs ls k d = true)
      ⟨⟨_, rfl⟩, .refl, by simp⟩ (fun i σ H' _ ⟨_, c, _⟩ => SqT.of (c.tup hp6)) ?_ ?_
    · rintro i x σ H7 hi ⟨⟨v6, rfl⟩, c7, hp⟩
      obtain ⟨d, hd, rx⟩ := hu6.get hi
      have k7 := k6.trans c7
      walk_at "vs"
      refine ⟨x, d, F, b1, b2, bs, ls, k, by simp, by omega, rx.on0 c7, k7.at h1, k7.at h2, fun H8 c8 => ?_⟩
      walk_at "vs"
      refine v_iteNB (fun hb => ?_) (fun hb => ?_)
      · walk_at "vs"
        have := q6 H8 (k7.trans c8)
        rw [show us.all (withinT bs ls k) = false from by
          cases ha : us.all (withinT bs ls k) with
          | false => rfl
          | true => rw [List.all_eq_true.mp ha d (List.mem_of_getElem? hd)] at hb; cases hb] at this
        exact this
      · walk_at "vs"
        refine ⟨⟨_, rfl⟩, c7.trans c8, fun g hg => ?_⟩
        rw [take_snoc hd] at hg
        rcases List.mem_append.mp hg with h | h
        · exact hp g h
        · rw [List.mem_singleton] at h; subst h; exact hb
    · rintro σ H7 ⟨⟨v6, rfl⟩, c7, hp⟩
      rw [hul, List.take_length] at hp
      walk_at "vs"
      have := q6 H7 (k6.trans c7)
      rw [List.all_eq_true.mpr hp] at this
      exact this
theorem ok_is_within (T : Txt K mg) (D : DefAt K mg "is_within" s_is_within) (O_values_in : Own P w K mg base "values_in" 1 ["word"] (sp_valsin)) (O_is_plain : Own P w K mg base "is_plain" 2 ["thing", "boxes", "lists"] (sp_plain)) (O_is_one_of : Own P w K mg base "is_one_of" 1 ["thing", "names"] (sp_oneof)) : ∀ n : Nat, Own P w K mg base "is_within" (3 + n) ["thing", "boxes", "lists", "deep"] (sp_iswithin n)
  | 0 => own_of (k := 3) D (fun _ _ _ _ _ _ us hl => match us, hl with | [_, _, _, _], _ => rfl) (fnW_of (N := ["thing", "boxes", "lists", "deep", "count", "parts", "part"]) sc_is_within (fun vs H Q E h => ((show ∀ vs H Q E, ¬ (sp_iswithin 0 : Sp) vs H Q E from fun _ _ _ _ ⟨_, _, _, _, _, _, _, _, _, h, _⟩ => absurd h (Nat.not_lt_zero _)) vs H Q E h).elim) (fun f cdv A outer s H vs Q E hr h => ((show ∀ vs H Q E, ¬ (sp_iswithin 0 : Sp) vs H Q E from fun _ _ _ _ ⟨_, _, _, _, _, _, _, _, _, h, _⟩ => absurd h (Nat.not_lt_zero _)) vs H Q E h).elim))
  | n + 1 => st_is_within T D O_values_in O_is_plain O_is_one_of n (ok_is_within T D O_values_in O_is_plain O_is_one_of n)
abbrev s_is_value : Stmt := topS 26
theorem sc_is_value : FnScope ["thing", "boxes", "lists"] ["thing", "boxes", "lists"] (defScope s_is_value) := ⟨rfl, rfl, rfl, by decide +kernel, rfl, by decide +kernel, by decide +kernel⟩
theorem ok_is_value (T : Txt K mg) (D : DefAt K mg "is_value" s_is_value) (O_is_within : Own P w K mg base "is_within" 8 ["thing", "boxes", "lists", "deep"] (sp_iswithin 5)) : Own P w K mg base "is_value" 9 ["thing", "boxes", "lists"] (sp_value4) := by
  refine own_of D (fun _ _ _ _ _ _ us hl => match us, hl with | [_, _, _], _ => rfl) (fnW_of (N := ["thing", "boxes", "lists"]) sc_is_value (fun vs H Q E h => ?_) (fun f cdv A outer s H vs Q E hr h => ?_))
  · obtain ⟨v, t, F, b1, b2, bs, ls, rfl, _⟩ := h; rfl
  · have nd := sc_is_value.nd
    have hu := L2H.roomH_of hr
    have TK : L2N.Takes (cxOf (L2N.CX P w) P w K mg base ["thing", "boxes", "lists"] "is_value" (defScope s_is_value) f cdv A outer s H E) (fun cls d _ H => E cls d H) := L2N.takes_of rfl rfl rfl rfl
    refine ⟨_, (pss_one (ps_ret (pe_own O_is_within (by decide) hr rfl (fun σ => L2N.passAt TK σ) (pa_cons (pv 0) (pa_cons (pv 1) (pa_cons (pv 2) (pa_cons (pe_con_ T.c_DEEPEST_values rfl) pa_nil))))))), ?_⟩
    clear nd
    obtain ⟨v, t, F, b1, b2, bs, ls, rfl, ht, h1, h2, q⟩ := h
    walk_at "vs"
    exact ⟨v, t, F, b1, b2, bs, ls, 4, rfl, by omega, ht, h1, h2, q⟩
abbrev s_parts_of : Stmt := topS 44
theorem sc_parts_of : FnScope ["word", "plain", "boxed", "listed", "around", "some"] ["word"] (defScope s_parts_of) := ⟨rfl, rfl, rfl, by decide +kernel, rfl, by decide +kernel, by decide +kernel⟩
theorem ok_parts_of (T : Txt K mg) (D : DefAt K mg "parts_of" s_parts_of) : Own P w K mg base "parts_of" 1 ["word"] (sp_partsof (cs T)) := by
  refine own_of D (fun _ _ _ _ _ _ us hl => match us, hl with | [_], _ => rfl) (fnW_of (N := ["word", "plain", "boxed", "listed", "around", "some"]) sc_parts_of (fun vs H Q E h => ?_) (fun f cdv A outer s H vs Q E hr h => ?_))
  · obtain ⟨w, rfl, _⟩ := h; rfl
  · have nd := sc_parts_of.nd
    have hu := L2H.roomH_of hr
    refine ⟨_, (pss_cons (ps_set (i := 1) nd rfl (by first | exact Or.inl rfl | exact Or.inr rfl) (pe_disp (pps_cons pe_str (pe_lst (pa_cons (pe_mak0 T.k_ValuePart T.oi_ValuePart rfl) pa_nil)) (pps_cons pe_str (pe_lst (pa_cons (pe_mak0 T.k_ValuePart T.oi_ValuePart rfl) pa_nil)) (pps_cons pe_str (pe_lst (pa_cons (pe_mak0 T.k_ValuePart T.oi_ValuePart rfl) pa_nil)) pps_nil))) rfl rfl (by simp) (by decide)))
      (pss_cons (ps_set (i := 2) nd rfl (by first | exact Or.inl rfl | exact Or.inr rfl) (pe_disp (pps_cons pe_str (pe_lst (pa_cons (pe_mak0 T.k_BoxPart T.oi_BoxPart rfl) (pa_cons (pe_mak0 T.k_ValuePart T.oi_ValuePart rfl) pa_nil))) (pps_cons pe_str (pe_lst (pa_cons (pe_mak0 T.k_BoxPart T.oi_BoxPart rfl) (pa_cons (pe_mak0 T.k_ListPart T.oi_ListPart rfl) pa_nil))) (pps_cons pe_str (pe_lst (pa_cons (pe_mak0 T.k_BoxPart T.oi_BoxPart rfl) (pa_cons (pe_mak0 T.k_DoorPart T.oi_DoorPart rfl) pa_nil))) pps_nil))) rfl rfl (by simp) (by decide)))
      (pss_cons (ps_asg (pe_lst (pa_cons (pe_mak0 T.k_BoxPart T.oi_BoxPart rfl) (pa_cons (pe_mak0 T.k_FunctionPart T.oi_FunctionPart rfl) (pa_cons (pe_mak0 T.k_ValuesPart T.oi_ValuesPart rfl) pa_nil)))) (pg_sub (pv 2) pe_str (set_u hu)))
      (pss_cons (ps_set (i := 3) nd rfl (by first | exact Or.inl rfl | exact Or.inr rfl) (pe_disp (pps_cons pe_str (pe_lst (pa_cons (pe_mak0 T.k_ListPart T.oi_ListPart rfl) (pa_cons (pe_mak0 T.k_ValuePart T.oi_ValuePart rfl) pa_nil))) (pps_cons pe_str (pe_lst (pa_cons (pe_mak0 T.k_ListPart T.oi_ListPart rfl) (pa_cons (pe_mak0 T.k_ValuePart T.oi_ValuePart rfl) (pa_cons (pe_mak0 T.k_ValuePart T.oi_ValuePart rfl) pa_nil)))) pps_nil)) rfl rfl (by simp) (by decide)))
      (pss_cons (ps_set (i := 4) nd rfl (by first | exact Or.inl rfl | exact Or.inr rfl) (pe_disp (pps_cons pe_str (pe_lst (pa_cons (pe_mak0 T.k_ValuePart T.oi_ValuePart rfl) (pa_cons (pe_mak0 T.k_RowsPart T.oi_RowsPart rfl) (pa_cons (pe_mak0 T.k_RowsPart T.oi_RowsPart rfl) pa_nil)))) (pps_cons pe_str (pe_lst (pa_cons (pe_mak0 T.k_ValuePart T.oi_ValuePart rfl) (pa_cons (pe_mak0 T.k_RowsPart T.oi_RowsPart rfl) pa_nil))) pps_nil)) rfl rfl (by simp) (by decide)))
      (pss_cons (ps_asg (pe_lst (pa_cons (pe_mak0 T.k_RowsPart T.oi_RowsPart rfl) (pa_cons (pe_mak0 T.k_BoxPart T.oi_BoxPart rfl) (pa_cons (pe_mak0 T.k_RowsPart T.oi_RowsPart rfl) pa_nil)))) (pg_sub (pv 4) pe_str (set_u hu)))
      (pss_cons (ps_for (passes_of rfl) rfl (pi_u (K := K) (pe_tup (pa_cons (pv 1) (pa_cons (pv 2) (pa_cons (pv 3) (pa_cons (pv 4) pa_nil)))))) (pg_name (i := 5) nd rfl (by first | exact Or.inl rfl | exact Or.inr rfl))
      (pss_one (ps_if (pt_cmpR (op_uin (K := K) hu) (pv 0) (pv 5) rfl)
      (pss_one (ps_ret (pe_ix (ix_u (K := K) hu) (pv 5) (pv 0) (fun _ _ => rfl)))) pss_nil)))
      (pss_one (ps_ret pe_non))))))))), ?_⟩
    clear nd
    obtain ⟨w, rfl, q⟩ := h
    walk_at "vs"
    refine v_disp fun pP G1 nP g1 eP => ?_
    walk_at "vs"
    refine v_mak0 fun y2 x2 G2 ny2 g2 hy2 => ?_
    walk_at "vs"
    refine v_newL (line9 (by show 1 ≤ 10000; decide)) fun y3 G3 ny3 g3 hy3 => ?_
    have k3 : Chg [] G1 G3 := (g2.trans g3)
    have l3 : LsAt (cs T) G3 (.ref y3) [.val] := ⟨_, _, rfl, hy3, (.cons ⟨_, x2, rfl, g3.at hy2⟩ .nil)⟩
    walk_at "vs"
    refine v_mak0 fun y4 x4 G4 ny4 g4 hy4 => ?_
    walk_at "vs"
    refine v_newL (line9 (by show 1 ≤ 10000; decide)) fun y5 G5 ny5 g5 hy5 => ?_
    have k5 : Chg [] G3 G5 := (g4.trans g5)
    have l5 : LsAt (cs T) G5 (.ref y5) [.val] := ⟨_, _, rfl, hy5, (.cons ⟨_, x4, rfl, g5.at hy4⟩ .nil)⟩
    walk_at "vs"
    refine v_mak0 fun y6 x6 G6 ny6 g6 hy6 => ?_
    walk_at "vs"
    refine v_newL (line9 (by show 1 ≤ 10000; decide)) fun y7 G7 ny7 g7 hy7 => ?_
    have k7 : Chg [] G5 G7 := (g6.trans g7)
    have l7 : LsAt (cs T) G7 (.ref y7) [.val] := ⟨_, _, rfl, hy7, (.cons ⟨_, x6, rfl, g7.at hy6⟩ .nil)⟩
    walk_at "vs"
    have eP2 : G7 pP = some (.dK []) := ((k3.trans k5).trans k7).at eP
    refine v_dispE ([(.inr (Str.ofString "tell"), .ref y3), (.inr (Str.ofString "fail"), .ref y5), (.inr (Str.ofString "return"), .ref y7)] : List (Key × V)) eP2 rfl (by show 3 ≤ 15; decide) fun DP dP fP => ?_
    replace fP : DP pP = some (.dK ([(.inr (Str.ofString "tell"), .ref y3), (.inr (Str.ofString "fail"), .ref y5), (.inr (Str.ofString "return"), .ref y7)] : List (Key × V))) := fP
    have cP : Chg [] H DP := (((g1.trans k3).trans k5).trans k7).trans' dP (by intro b hb; rw [List.mem_singleton] at hb; subst hb; exact .inr nP)
    have vP : KvP (cs T) DP ([(.inr (Str.ofString "tell"), .ref y3), (.inr (Str.ofString "fail"), .ref y5), (.inr (Str.ofString "return"), .ref y7)] : List (Key × V)) ([(Str.ofString "tell", [.val]), (Str.ofString "fail", [.val]), (Str.ofString "return", [.val])] : List (Str × List PK)) := (.cons ⟨rfl, (l3.on0 (k5.trans k7)).onD dP eP2⟩ (.cons ⟨rfl, (l5.on0 k7).onD dP eP2⟩ (.cons ⟨rfl, l7.onD dP eP2⟩ .nil)))
    walk_at "vs"
    refine v_disp fun pB G8 nB g8 eB => ?_
    walk_at "vs"
    refine v_mak0 fun y9 x9 G9 ny9 g9 hy9 => ?_
    walk_at "vs"
    refine v_mak0 fun y10 x10 G10 ny10 g10 hy10 => ?_
    walk_at "vs"
    refine v_newL (line9 (by show 2 ≤ 10000; decide)) fun y11 G11 ny11 g11 hy11 => ?_
    have k11 : Chg [] G8 G11 := ((g9.trans g10).trans g11)
    have l11 : LsAt (cs T) G11 (.ref y11) [.box, .val] := ⟨_, _, rfl, hy11, (.cons ⟨_, x9, rfl, (g10.trans g11).at hy9⟩ (.cons ⟨_, x10, rfl, g11.at hy10⟩ .nil))⟩
    walk_at "vs"
    refine v_mak0 fun y12 x12 G12 ny12 g12 hy12 => ?_
    walk_at "vs"
    refine v_mak0 fun y13 x13 G13 ny13 g13 hy13 => ?_
    walk_at "vs"
    refine v_newL (line9 (by show 2 ≤ 10000; decide)) fun y14 G14 ny14 g14 hy14 => ?_
    have k14 : Chg [] G11 G14 := ((g12.trans g13).trans g14)
    have l14 : LsAt (cs T) G14 (.ref y14) [.box, .list] := ⟨_, _, rfl, hy14, (.cons ⟨_, x12, rfl, (g13.trans g14).at hy12⟩ (.cons ⟨_, x13, rfl, g14.at hy13⟩ .nil))⟩
    walk_at "vs"
    refine v_mak0 fun y15 x15 G15 ny15 g15 hy15 => ?_
    walk_at "vs"
    refine v_mak0 fun y16 x16 G16 ny16 g16 hy16 => ?_
    walk_at "vs"
    refine v_newL (line9 (by show 2 ≤ 10000; decide)) fun y17 G17 ny17 g17 hy17 => ?_
    have k17 : Chg [] G14 G17 := ((g15.trans g16).trans g17)
    have l17 : LsAt (cs T) G17 (.ref y17) [.box, .door] := ⟨_, _, rfl, hy17, (.cons ⟨_, x15, rfl, (g16.trans g17).at hy15⟩ (.cons ⟨_, x16, rfl, g17.at hy16⟩ .nil))⟩
    walk_at "vs"
    have eB2 : G17 pB = some (.dK []) := ((k11.trans k14).trans k17).at eB
    refine v_dispE ([(.inr (Str.ofString "set"), .ref y11), (.inr (Str.ofString "pop"), .ref y14), (.inr (Str.ofString "ask"), .ref y17)] : List (Key × V)) eB2 rfl (by show 3 ≤ 15; decide) fun DB dB fB => ?_
    replace fB : DB pB = some (.dK ([(.inr (Str.ofString "set"), .ref y11), (.inr (Str.ofString "pop"), .ref y14), (.inr (Str.ofString "ask"), .ref y17)] : List (Key × V))) := fB
    have cB : Chg [] DP DB := (((g8.trans k11).trans k14).trans k17).trans' dB (by intro b hb; rw [List.mem_singleton] at hb; subst hb; exact .inr nB)
    have vB : KvP (cs T) DB ([(.inr (Str.ofString "set"), .ref y11), (.inr (Str.ofString "pop"), .ref y14), (.inr (Str.ofString "ask"), .ref y17)] : List (Key × V)) ([(Str.ofString "set", [.box, .val]), (Str.ofString "pop", [.box, .list]), (Str.ofString "ask", [.box, .door])] : List (Str × List PK)) := (.cons ⟨rfl, (l11.on0 (k14.trans k17)).onD dB eB2⟩ (.cons ⟨rfl, (l14.on0 k17).onD dB eB2⟩ (.cons ⟨rfl, l17.onD dB eB2⟩ .nil)))
    walk_at "vs"
    refine v_mak0 fun y18 x18 G18 ny18 g18 hy18 => ?_
    walk_at "vs"
    refine v_mak0 fun y19 x19 G19 ny19 g19 hy19 => ?_
    walk_at "vs"
    refine v_mak0 fun y20 x20 G20 ny20 g20 hy20 => ?_
    walk_at "vs"
    refine v_newL (line9 (by show 3 ≤ 10000; decide)) fun y21 G21 ny21 g21 hy21 => ?_
    have k21 : Chg [] DB G21 := (((g18.trans g19).trans g20).trans g21)
    have l21 : LsAt (cs T) G21 (.ref y21) [.box, .fn, .vals] := ⟨_, _, rfl, hy21, (.cons ⟨_, x18, rfl, ((g19.trans g20).trans g21).at hy18⟩ (.cons ⟨_, x19, rfl, (g20.trans g21).at hy19⟩ (.cons ⟨_, x20, rfl, g21.at hy20⟩ .nil)))⟩
    walk_at "vs"
    refine v_set_d (k := .inr (Str.ofString "call")) (k21.at fB) rfl (line9' (by show 3 ≤ 10000; decide)) fun DC dC fC => ?_
    replace fC : DC pB = some (.dK ([(.inr (Str.ofString "set"), .ref y11), (.inr (Str.ofString "pop"), .ref y14), (.inr (Str.ofString "ask"), .ref y17), (.inr (Str.ofString "call"), .ref y21)] : List (Key × V))) := by rw [fC, putK_new _ rfl]; rfl
    have vC : KvP (cs T) DC ([(.inr (Str.ofString "set"), .ref y11), (.inr (Str.ofString "pop"), .ref y14), (.inr (Str.ofString "ask"), .ref y17), (.inr (Str.ofString "call"), .ref y21)] : List (Key × V)) ([(Str.ofString "set", [.box, .val]), (Str.ofString "pop", [.box, .list]), (Str.ofString "ask", [.box, .door]), (Str.ofString "call", [.box, .fn, .vals])] : List (Str × List PK)) := by
      have z := (vB.on0 k21).onD dC (k21.at fB)
      have z2 := l21.onD dC (k21.at fB)
      match z with | .cons q0 (.cons q1 (.cons q2 (.nil))) => exact (.cons q0 (.cons q1 (.cons q2 (.cons ⟨rfl, z2⟩ .nil))))
    walk_at "vs"
    have cC : Chg [] DP DC := (cB.trans k21).trans' dC (by intro b hb; rw [List.mem_singleton] at hb; subst hb; exact .inr nB)
    refine v_disp fun pL G22 nL g22 eL => ?_
    walk_at "vs"
    refine v_mak0 fun y23 x23 G23 ny23 g23 hy23 => ?_
    walk_at "vs"
    refine v_mak0 fun y24 x24 G24 ny24 g24 hy24 => ?_
    walk_at "vs"
    refine v_newL (line9 (by show 2 ≤ 10000; decide)) fun y25 G25 ny25 g25 hy25 => ?_
    have k25 : Chg [] G22 G25 := ((g23.trans g24).trans g25)
    have l25 : LsAt (cs T) G25 (.ref y25) [.list, .val] := ⟨_, _, rfl, hy25, (.cons ⟨_, x23, rfl, (g24.trans g25).at hy23⟩ (.cons ⟨_, x24, rfl, g25.at hy24⟩ .nil))⟩
    walk_at "vs"
    refine v_mak0 fun y26 x26 G26 ny26 g26 hy26 => ?_
    walk_at "vs"
    refine v_mak0 fun y27 x27 G27 ny27 g27 hy27 => ?_
    walk_at "vs"
    refine v_mak0 fun y28 x28 G28 ny28 g28 hy28 => ?_
    walk_at "vs"
    refine v_newL (line9 (by show 3 ≤ 10000; decide)) fun y29 G29 ny29 g29 hy29 => ?_
    have k29 : Chg [] G25 G29 := (((g26.trans g27).trans g28).trans g29)
    have l29 : LsAt (cs T) G29 (.ref y29) [.list, .val, .val] := ⟨_, _, rfl, hy29, (.cons ⟨_, x26, rfl, ((g27.trans g28).trans g29).at hy26⟩ (.cons ⟨_, x27, rfl, (g28.trans g29).at hy27⟩ (.cons ⟨_, x28, rfl, g29.at hy28⟩ .nil)))⟩
    walk_at "vs"
    have eL2 : G29 pL = some (.dK []) := (k25.trans k29).at eL
    refine v_dispE ([(.inr (Str.ofString "push"), .ref y25), (.inr (Str.ofString "put"), .ref y29)] : List (Key × V)) eL2 rfl (by show 2 ≤ 15; decide) fun DL dL fL => ?_
    replace fL : DL pL = some (.dK ([(.inr (Str.ofString "push"), .ref y25), (.inr (Str.ofString "put"), .ref y29)] : List (Key × V))) := fL
    have cL : Chg [] DC DL := ((g22.trans k25).trans k29).trans' dL (by intro b hb; rw [List.mem_singleton] at hb; subst hb; exact .inr nL)
    have vL : KvP (cs T) DL ([(.inr (Str.ofString "push"), .ref y25), (.inr (Str.ofString "put"), .ref y29)] : List (Key × V)) ([(Str.ofString "push", [.list, .val]), (Str.ofString "put", [.list, .val, .val])] : List (Str × List PK)) := (.cons ⟨rfl, (l25.on0 k29).onD dL eL2⟩ (.cons ⟨rfl, l29.onD dL eL2⟩ .nil))
    walk_at "vs"
    refine v_disp fun pA G30 nA g30 eA => ?_
    walk_at "vs"
    refine v_mak0 fun y31 x31 G31 ny31 g31 hy31 => ?_
    walk_at "vs"
    refine v_mak0 fun y32 x32 G32 ny32 g32 hy32 => ?_
    walk_at "vs"
    refine v_mak0 fun y33 x33 G33 ny33 g33 hy33 => ?_
    walk_at "vs"
    refine v_newL (line9 (by show 3 ≤ 10000; decide)) fun y34 G34 ny34 g34 hy34 => ?_
    have k34 : Chg [] G30 G34 := (((g31.trans g32).trans g33).trans g34)
    have l34 : LsAt (cs T) G34 (.ref y34) [.val, .rows, .rows] := ⟨_, _, rfl, hy34, (.cons ⟨_, x31, rfl, ((g32.trans g33).trans g34).at hy31⟩ (.cons ⟨_, x32, rfl, (g33.trans g34).at hy32⟩ (.cons ⟨_, x33, rfl, g34.at hy33⟩ .nil)))⟩
    walk_at "vs"
    refine v_mak0 fun y35 x35 G35 ny35 g35 hy35 => ?_
    walk_at "vs"
    refine v_mak0 fun y36 x36 G36 ny36 g36 hy36 => ?_
    walk_at "vs"
    refine v_newL (line9 (by show 2 ≤ 10000; decide)) fun y37 G37 ny37 g37 hy37 => ?_
    have k37 : Chg [] G34 G37 := ((g35.trans g36).trans g37)
    have l37 : LsAt (cs T) G37 (.ref y37) [.val, .rows] := ⟨_, _, rfl, hy37, (.cons ⟨_, x35, rfl, (g36.trans g37).at hy35⟩ (.cons ⟨_, x36, rfl, g37.at hy36⟩ .nil))⟩
    walk_at "vs"
    have eA2 : G37 pA = some (.dK []) := (k34.trans k37).at eA
    refine v_dispE ([(.inr (Str.ofString "if"), .ref y34), (.inr (Str.ofString "while"), .ref y37)] : List (Key × V)) eA2 rfl (by show 2 ≤ 15; decide) fun DA dA fA => ?_
    replace fA : DA pA = some (.dK ([(.inr (Str.ofString "if"), .ref y34), (.inr (Str.ofString "while"), .ref y37)] : List (Key × V))) := fA
    have cA : Chg [] DL DA := ((g30.trans k34).trans k37).trans' dA (by intro b hb; rw [List.mem_singleton] at hb; subst hb; exact .inr nA)
    have vA : KvP (cs T) DA ([(.inr (Str.ofString "if"), .ref y34), (.inr (Str.ofString "while"), .ref y37)] : List (Key × V)) ([(Str.ofString "if", [.val, .rows, .rows]), (Str.ofString "while", [.val, .rows])] : List (Str × List PK)) := (.cons ⟨rfl, (l34.on0 k37).onD dA eA2⟩ (.cons ⟨rfl, l37.onD dA eA2⟩ .nil))
    walk_at "vs"
    refine v_mak0 fun y38 x38 G38 ny38 g38 hy38 => ?_
    walk_at "vs"
    refine v_mak0 fun y39 x39 G39 ny39 g39 hy39 => ?_
    walk_at "vs"
    refine v_mak0 fun y40 x40 G40 ny40 g40 hy40 => ?_
    walk_at "vs"
    refine v_newL (line9 (by show 3 ≤ 10000; decide)) fun y41 G41 ny41 g41 hy41 => ?_
    have k41 : Chg [] DA G41 := (((g38.trans g39).trans g40).trans g41)
    have l41 : LsAt (cs T) G41 (.ref y41) [.rows, .box, .rows] := ⟨_, _, rfl, hy41, (.cons ⟨_, x38, rfl, ((g39.trans g40).trans g41).at hy38⟩ (.cons ⟨_, x39, rfl, (g40.trans g41).at hy39⟩ (.cons ⟨_, x40, rfl, g41.at hy40⟩ .nil)))⟩
    walk_at "vs"
    refine v_set_d (k := .inr (Str.ofString "try")) (k41.at fA) rfl (line9' (by show 2 ≤ 10000; decide)) fun DT dT fT => ?_
    replace fT : DT pA = some (.dK ([(.inr (Str.ofString "if"), .ref y34), (.inr (Str.ofString "while"), .ref y37), (.inr (Str.ofString "try"), .ref y41)] : List (Key × V))) := by rw [fT, putK_new _ rfl]; rfl
    have vT : KvP (cs T) DT ([(.inr (Str.ofString "if"), .ref y34), (.inr (Str.ofString "while"), .ref y37), (.inr (Str.ofString "try"), .ref y41)] : List (Key × V)) ([(Str.ofString "if", [.val, .rows, .rows]), (Str.ofString "while", [.val, .rows]), (Str.ofString "try", [.rows, .box, .rows])] : List (Str × List PK)) := by
      have z := (vA.on0 k41).onD dT (k41.at fA)
      have z2 := l41.onD dT (k41.at fA)
      match z with | .cons q0 (.cons q1 (.nil)) => exact (.cons q0 (.cons q1 (.cons ⟨rfl, z2⟩ .nil)))
    walk_at "vs"
    have cT : Chg [] DL DT := (cA.trans k41).trans' dT (by intro b hb; rw [List.mem_singleton] at hb; subst hb; exact .inr nA)
    refine v_newT (line9 (by show 4 ≤ 10000; decide)) fun tp HT ntp ct htp => ?_
    have kL : Chg [] DL HT := cT.trans ct
    have kC : Chg [] DC HT := cL.trans kL
    have kP : Chg [] DP HT := cC.trans kC
    have k0 : Chg [] H HT := cP.trans kP
    have wP := vP.on0 kP
    have wC := vC.on0 kC
    have wL := vL.on0 kL
    have wT := vT.on0 ct
    have hP := kP.at fP
    have hC := kC.at fC
    have hL := kL.at fL
    have hT := ct.at fT
    generalize hkP : ([(.inr (Str.ofString "tell"), .ref y3), (.inr (Str.ofString "fail"), .ref y5), (.inr (Str.ofString "return"), .ref y7)] : List (Key × V)) = kvP at wP hP
    generalize hkC : ([(.inr (Str.ofString "set"), .ref y11), (.inr (Str.ofString "pop"), .ref y14), (.inr (Str.ofString "ask"), .ref y17), (.inr (Str.ofString "call"), .ref y21)] : List (Key × V)) = kvC at wC hC
    generalize hkL : ([(.inr (Str.ofString "push"), .ref y25), (.inr (Str.ofString "put"), .ref y29)] : List (Key × V)) = kvL at wL hL
    generalize hkT : ([(.inr (Str.ofString "if"), .ref y34), (.inr (Str.ofString "while"), .ref y37), (.inr (Str.ofString "try"), .ref y41)] : List (Key × V)) = kvT at wT hT
    have one : ∀ (i : Nat) (x : V), [V.ref pP, .ref pB, .ref pL, .ref pA][i]? = some x → ∃ p kvs es, x = .ref p ∧ HT p = some (.dK kvs) ∧ KvP (cs T) HT kvs es ∧ es = [esP, esB, esL, esA].getD i [] := by
      intro i x hx
      match i, hx with
      | 0, hx => cases hx; exact ⟨pP, kvP, _, rfl, hP, wP, rfl⟩
      | 1, hx => cases hx; exact ⟨pB, kvC, _, rfl, hC, wC, rfl⟩
      | 2, hx => cases hx; exact ⟨pL, kvL, _, rfl, hL, wL, rfl⟩
      | 3, hx => cases hx; exact ⟨pA, kvT, _, rfl, hT, wT, rfl⟩
      | n + 4, hx => simp at hx
    refine v_it_t (SqT.of htp) ?_
    refine v_for_tup (xs := [.ref pP, .ref pB, .ref pL, .ref pA]) (fun i σ H' => (∃ v5, σ = [some (.str w), some (.ref pP), some (.ref pB), some (.ref pL), some (.ref pA), v5]) ∧ Chg [] HT H' ∧ ∀ j, j < i → ∀ e ∈ [esP, esB, esL, esA].getD j [], e.1 ≠ w) ⟨⟨_, rfl⟩, .refl, by omega⟩ (fun i σ H' _ ⟨_, c, _⟩ => SqT.of (c.tup htp)) ?_ ?_
    · rintro i x σ H' hx ⟨⟨v5, rfl⟩, c, hno⟩
      have hi4 : i < 4 := (List.getElem?_eq_some_iff.mp hx).1
      obtain ⟨p, kvs, es, rfl, hp, hk, rfl⟩ := one i x hx
      have hk' := hk.on0 c
      walk_at "vs"
      refine v_in_d (DGet.k (k := .inr w) (c.at hp)) ?_
      walk_at "vs"
      cases hv : valV kvs (.inr w) with
      | some v =>
        refine v_iteT ?_
        walk_at "vs"
        refine v_ix_d (by rw [← hv]; exact DGet.k (k := .inr w) (c.at hp)) ?_
        obtain ⟨e, he, hw, h1⟩ := hk'.some hv
        have hm : e ∈ esP ++ esB ++ esL ++ esA := by
          match i, hi4, he with
          | 0, _, he => simp only [List.mem_append]; exact .inl (.inl (.inl he))
          | 1, _, he => simp only [List.mem_append]; exact .inl (.inl (.inr he))
          | 2, _, he => simp only [List.mem_append]; exact .inl (.inr he)
          | 3, _, he => simp only [List.mem_append]; exact .inr he
        have hpo := es_some e hm
        rw [hw] at hpo
        refine q v H' (k0.trans c) ?_
        rw [hpo]
        exact h1
      | none =>
        refine v_iteF ?_
        walk_at "vs"
        refine ⟨⟨_, rfl⟩, c, fun j hj => ?_⟩
        by_cases hji : j < i
        · exact hno j hji
        · have : j = i := by omega
          subst this
          exact hk.none hv
    · rintro σ H' ⟨⟨v5, rfl⟩, c, hno⟩
      walk_at "vs"
      refine q .non H' (k0.trans c) ?_
      rw [es_none (w := w) fun e he => ?_]
      simp only [List.mem_append] at he
      rcases he with ((he | he) | he) | he
      · exact hno 0 (by show 0 < 4; decide) e he
      · exact hno 1 (by show 1 < 4; decide) e he
      · exact hno 2 (by show 2 < 4; decide) e he
      · exact hno 3 (by show 3 < 4; decide) e he
abbrev s_Scope___init__ : Stmt := (inClass (topS 35) 0)
theorem sc_Scope___init__ : FnScope ["self", "boxes", "lists", "functions", "inside"] ["self", "boxes", "lists", "functions", "inside"] (defScope s_Scope___init__) := ⟨rfl, rfl, rfl, by decide +kernel, rfl, by decide +kernel, by decide +kernel⟩
theorem ok_Scope___init__ (T : Txt K mg) (D : MetAt K T.k_Scope.C "__init__" "Scope.__init__" s_Scope___init__) : OwnM P w K mg base T.k_Scope.C "__init__" 1 ["self", "boxes", "lists", "functions", "inside"] (sp_scope T.k_Scope.C) := by
  refine ownM_of D (fun _ _ _ _ _ _ us hl => match us, hl with | [_, _, _, _, _], _ => rfl) (fnQ_of (N := ["self", "boxes", "lists", "functions", "inside"]) sc_Scope___init__ (fun vs H Q E h => ?_) (fun f cdv A outer s H vs Q E hr h => ?_))
  · obtain ⟨y, dx, v1, v2, v3, v4, rfl, _⟩ := h; rfl
  · have nd := sc_Scope___init__.nd
    have hu := L2H.roomH_of hr
    refine ⟨_, (pss_cons (ps_fld (pv 0) (pv 1) rfl)
      (pss_cons (ps_fld (pv 0) (pv 2) rfl)
      (pss_cons (ps_fld (pv 0) (pv 3) rfl)
      (pss_one (ps_fld (pv 0) (pv 4) rfl))))), ?_⟩
    clear nd
    obtain ⟨y, dx, v1, v2, v3, v4, rfl, hy, q⟩ := h
    walk_at "vs"
    refine v_fldW T.k_Scope hy (by simp) (by show 0 < 1000; decide) fun H1 c1 h1 => ?_
    walk_at "vs"
    refine v_fldW T.k_Scope h1 (by simp) (by show 1 < 1000; decide) fun H2 c2 h2 => ?_
    walk_at "vs"
    refine v_fldW T.k_Scope h2 (by simp) (by show 2 < 1000; decide) fun H3 c3 h3 => ?_
    walk_at "vs"
    refine v_fldW T.k_Scope h3 (by simp) (by show 3 < 1000; decide) fun H4 c4 h4 => ?_
    walk_at "vs"
    exact q H4 (((c1.trans c2).trans c3).trans c4) h4
abbrev s_BoxPart_fits : Stmt := (inClass (topS 37) 0)
theorem sc_BoxPart_fits : FnScope ["self", "thing", "scope", "deep"] ["self", "thing", "scope", "deep"] (defScope s_BoxPart_fits) := ⟨rfl, rfl, rfl, by decide +kernel, rfl, by decide +kernel, by decide +kernel⟩
theorem ok_BoxPart_fits (T : Txt K mg) (D : MetAt K T.k_BoxPart.C "fits" "BoxPart.fits" s_BoxPart_fits) (O_is_one_of : Own P w K mg base "is_one_of" 1 ["thing", "names"] (sp_oneof)) : OwnM P w K mg base T.k_BoxPart.C "fits" 2 ["self", "thing", "scope", "deep"] (sp_fit T.k_Scope.C .box) := by
  refine ownM_of D (fun _ _ _ _ _ _ us hl => match us, hl with | [_, _, _, _], _ => rfl) (fnQ_of (N := ["self", "thing", "scope", "deep"]) sc_BoxPart_fits (fun vs H Q E h => ?_) (fun f cdv A outer s H vs Q E hr h => ?_))
  · obtain ⟨me, v, t, F, sc, S, d, rfl, _⟩ := h; rfl
  · have nd := sc_BoxPart_fits.nd
    have hu := L2H.roomH_of hr
    have TK : L2N.Takes (cxOf (L2N.CX P w) P w K mg base ["self", "thing", "scope", "deep"] "BoxPart.fits" (defScope s_BoxPart_fits) f cdv A outer s H E) (fun cls d _ H => E cls d H) := L2N.takes_of rfl rfl rfl rfl
    refine ⟨_, (pss_one (ps_ret (pe_own O_is_one_of (by decide) hr rfl (fun σ => L2N.passAt TK σ) (pa_cons (pv 1) (pa_cons (pe_fldU (K := K) (pv 2)) pa_nil))))), ?_⟩
    clear nd
    obtain ⟨me, v, t, F, sc, S, d, rfl, ht, ⟨dx, b, l, fd, h1, h2, h3, h4⟩, q⟩ := h
    walk_at "vs"
    refine v_fldE T.k_Scope h1 (by simp) rfl ?_
    walk_at "vs"
    exact ⟨v, t, F, b, S.bs, rfl, ht, h2, q⟩
abbrev s_ListPart_fits : Stmt := (inClass (topS 38) 0)
theorem sc_ListPart_fits : FnScope ["self", "thing", "scope", "deep"] ["self", "thing", "scope", "deep"] (defScope s_ListPart_fits) := ⟨rfl, rfl, rfl, by decide +kernel, rfl, by decide +kernel, by decide +kernel⟩
theorem ok_ListPart_fits (T : Txt K mg) (D : MetAt K T.k_ListPart.C "fits" "ListPart.fits" s_ListPart_fits) (O_is_one_of : Own P w K mg base "is_one_of" 1 ["thing", "names"] (sp_oneof)) : OwnM P w K mg base T.k_ListPart.C "fits" 2 ["self", "thing", "scope", "deep"] (sp_fit T.k_Scope.C .list) := by
  refine ownM_of D (fun _ _ _ _ _ _ us hl => match us, hl with | [_, _, _, _], _ => rfl) (fnQ_of (N := ["self", "thing", "scope", "deep"]) sc_ListPart_fits (fun vs H Q E h => ?_) (fun f cdv A outer s H vs Q E hr h => ?_))
  · obtain ⟨me, v, t, F, sc, S, d, rfl, _⟩ := h; rfl
  · have nd := sc_ListPart_fits.nd
    have hu := L2H.roomH_of hr
    have TK : L2N.Takes (cxOf (L2N.CX P w) P w K mg base ["self", "thing", "scope", "deep"] "ListPart.fits" (defScope s_ListPart_fits) f cdv A outer s H E) (fun cls d _ H => E cls d H) := L2N.takes_of rfl rfl rfl rfl
    refine ⟨_, (pss_one (ps_ret (pe_own O_is_one_of (by decide) hr rfl (fun σ => L2N.passAt TK σ) (pa_cons (pv 1) (pa_cons (pe_fldU (K := K) (pv 2)) pa_nil))))), ?_⟩
    clear nd
    obtain ⟨me, v, t, F, sc, S, d, rfl, ht, ⟨dx, b, l, fd, h1, h2, h3, h4⟩, q⟩ := h
    walk_at "vs"
    refine v_fldE T.k_Scope h1 (by simp) rfl ?_
    walk_at "vs"
    exact ⟨v, t, F, l, S.ls, rfl, ht, h3, q⟩
abbrev s_DoorPart_fits : Stmt := (inClass (topS 39) 0)
theorem sc_DoorPart_fits : FnScope ["self", "thing", "scope", "deep"] ["self", "thing", "scope", "deep"] (defScope s_DoorPart_fits) := ⟨rfl, rfl, rfl, by decide +kernel, rfl, by decide +kernel, by decide +kernel⟩
theorem ok_DoorPart_fits (T : Txt K mg) (D : MetAt K T.k_DoorPart.C "fits" "DoorPart.fits" s_DoorPart_fits) (O_is_name : Own P w K mg base "is_name" 1 ["thing"] (sp_isname)) : OwnM P w K mg base T.k_DoorPart.C "fits" 2 ["self", "thing", "scope", "deep"] (sp_fit T.k_Scope.C .door) := by
  refine ownM_of D (fun _ _ _ _ _ _ us hl => match us, hl with | [_, _, _, _], _ => rfl) (fnQ_of (N := ["self", "thing", "scope", "deep"]) sc_DoorPart_fits (fun vs H Q E h => ?_) (fun f cdv A outer s H vs Q E hr h => ?_))
  · obtain ⟨me, v, t, F, sc, S, d, rfl, _⟩ := h; rfl
  · have nd := sc_DoorPart_fits.nd
    have hu := L2H.roomH_of hr
    have TK : L2N.Takes (cxOf (L2N.CX P w) P w K mg base ["self", "thing", "scope", "deep"] "DoorPart.fits" (defScope s_DoorPart_fits) f cdv A outer s H E) (fun cls d _ H => E cls d H) := L2N.takes_of rfl rfl rfl rfl
    refine ⟨_, (pss_one (ps_ret (pe_own O_is_name (by decide) hr rfl (fun σ => L2N.passAt TK σ) (pa_cons (pv 1) pa_nil)))), ?_⟩
    clear nd
    obtain ⟨me, v, t, F, sc, S, d, rfl, ht, _, q⟩ := h
    walk_at "vs"
    exact ⟨v, t, F, rfl, ht, q⟩
abbrev s_FunctionPart_fits : Stmt := (inClass (topS 40) 0)
theorem sc_FunctionPart_fits : FnScope ["self", "thing", "scope", "deep"] ["self", "thing", "scope", "deep"] (defScope s_FunctionPart_fits) := ⟨rfl, rfl, rfl, by decide +kernel, rfl, by decide +kernel, by decide +kernel⟩
theorem ok_FunctionPart_fits (T : Txt K mg) (D : MetAt K T.k_FunctionPart.C "fits" "FunctionPart.fits" s_FunctionPart_fits) (O_is_one_of : Own P w K mg base "is_one_of" 1 ["thing", "names"] (sp_oneof)) : OwnM P w K mg base T.k_FunctionPart.C "fits" 2 ["self", "thing", "scope", "deep"] (sp_fit T.k_Scope.C .fn) := by
  refine ownM_of D (fun _ _ _ _ _ _ us hl => match us, hl with | [_, _, _, _], _ => rfl) (fnQ_of (N := ["self", "thing", "scope", "deep"]) sc_FunctionPart_fits (fun vs H Q E h => ?_) (fun f cdv A outer s H vs Q E hr h => ?_))
  · obtain ⟨me, v, t, F, sc, S, d, rfl, _⟩ := h; rfl
  · have nd := sc_FunctionPart_fits.nd
    have hu := L2H.roomH_of hr
    have TK : L2N.Takes (cxOf (L2N.CX P w) P w K mg base ["self", "thing", "scope", "deep"] "FunctionPart.fits" (defScope s_FunctionPart_fits) f cdv A outer s H E) (fun cls d _ H => E cls d H) := L2N.takes_of rfl rfl rfl rfl
    refine ⟨_, (pss_one (ps_ret (pe_own O_is_one_of (by decide) hr rfl (fun σ => L2N.passAt TK σ) (pa_cons (pv 1) (pa_cons (pe_callTy (call_ulist (K := K) rfl) (by rfl) T.n_list (by decide +kernel) (pa_cons (pe_fldU (K := K) (pv 2)) pa_nil)) pa_nil))))), ?_⟩
    clear nd
    obtain ⟨me, v, t, F, sc, S, d, rfl, ht, ⟨dx, b, l, fd, h1, h2, h3, h4⟩, q⟩ := h
    walk_at "vs"
    refine v_fldE T.k_Scope h1 (by simp) rfl ?_
    walk_at "vs"
    refine v_list_d h4 fun p H1 np c1 hp => ?_
    walk_at "vs"
    have e : ((fnK S.fs).map fun kv => kV kv.1) = (S.fs.map Prod.fst).map V.str := by unfold fnK; rw [List.map_map, List.map_map]; rfl
    rw [e] at hp
    exact ⟨v, t, F, p, S.fs.map Prod.fst, rfl, ht.on0 c1, hp, fun H2 c2 => q H2 (c1.trans c2)⟩
abbrev s_ValuePart_fits : Stmt := (inClass (topS 41) 0)
theorem sc_ValuePart_fits : FnScope ["self", "thing", "scope", "deep"] ["self", "thing", "scope", "deep"] (defScope s_ValuePart_fits) := ⟨rfl, rfl, rfl, by decide +kernel, rfl, by decide +kernel, by decide +kernel⟩
theorem ok_ValuePart_fits (T : Txt K mg) (D : MetAt K T.k_ValuePart.C "fits" "ValuePart.fits" s_ValuePart_fits) (O_is_value : Own P w K mg base "is_value" 9 ["thing", "boxes", "lists"] (sp_value4)) : OwnM P w K mg base T.k_ValuePart.C "fits" 10 ["self", "thing", "scope", "deep"] (sp_fit T.k_Scope.C .val) := by
  refine ownM_of D (fun _ _ _ _ _ _ us hl => match us, hl with | [_, _, _, _], _ => rfl) (fnQ_of (N := ["self", "thing", "scope", "deep"]) sc_ValuePart_fits (fun vs H Q E h => ?_) (fun f cdv A outer s H vs Q E hr h => ?_))
  · obtain ⟨me, v, t, F, sc, S, d, rfl, _⟩ := h; rfl
  · have nd := sc_ValuePart_fits.nd
    have hu := L2H.roomH_of hr
    have TK : L2N.Takes (cxOf (L2N.CX P w) P w K mg base ["self", "thing", "scope", "deep"] "ValuePart.fits" (defScope s_ValuePart_fits) f cdv A outer s H E) (fun cls d _ H => E cls d H) := L2N.takes_of rfl rfl rfl rfl
    refine ⟨_, (pss_one (ps_ret (pe_own O_is_value (by decide) hr rfl (fun σ => L2N.passAt TK σ) (pa_cons (pv 1) (pa_cons (pe_fldU (K := K) (pv 2)) (pa_cons (pe_fldU (K := K) (pv 2)) pa_nil)))))), ?_⟩
    clear nd
    obtain ⟨me, v, t, F, sc, S, d, rfl, ht, ⟨dx, b, l, fd, h1, h2, h3, h4⟩, q⟩ := h
    walk_at "vs"
    refine v_fldE T.k_Scope h1 (by simp) rfl ?_
    walk_at "vs"
    refine v_fldE T.k_Scope h1 (by simp) rfl ?_
    walk_at "vs"
    exact ⟨v, t, F, b, l, S.bs, S.ls, rfl, ht, h2, h3, q⟩
abbrev s_ValuesPart_fits : Stmt := (inClass (topS 42) 0)
theorem sc_ValuesPart_fits : FnScope ["self", "thing", "scope", "deep", "one"] ["self", "thing", "scope", "deep"] (defScope s_ValuesPart_fits) := ⟨rfl, rfl, rfl, by decide +kernel, rfl, by decide +kernel, by decide +kernel⟩
theorem ok_ValuesPart_fits (T : Txt K mg) (D : MetAt K T.k_ValuesPart.C "fits" "ValuesPart.fits" s_ValuesPart_fits) (O_is_value : Own P w K mg base "is_value" 9 ["thing", "boxes", "lists"] (sp_value4)) : OwnM P w K mg base T.k_ValuesPart.C "fits" 10 ["self", "thing", "scope", "deep"] (sp_fit T.k_Scope.C .vals) := by
  refine ownM_of D (fun _ _ _ _ _ _ us hl => match us, hl with | [_, _, _, _], _ => rfl) (fnQ_of (N := ["self", "thing", "scope", "deep", "one"]) sc_ValuesPart_fits (fun vs H Q E h => ?_) (fun f cdv A outer s H vs Q E hr h => ?_))
  · obtain ⟨me, v, t, F, sc, S, d, rfl, _⟩ := h; rfl
  · have nd := sc_ValuesPart_fits.nd
    have hu := L2H.roomH_of hr
    refine ⟨_, (pss_one (ps_ret (pe_and (pe_callB (call_uisi (K := K)) (by rfl) T.n_isinstance (by decide +kernel) (pa_cons (pv 1) (pa_cons (pe_bltn (v := .ty "tuple") (by rfl) T.n_tuple (by decide +kernel) rfl) pa_nil))) (pe_one (pe_callB (cr_uall (K := K) rfl) (by rfl) T.n_all (by decide +kernel) (pa_cons (pe_lc (own := [("one", 4)]) rfl nd (pi_uB (K := K) (pv 1)) (blkOk_by (N := ["self", "thing", "scope", "deep", "one"]) (sc := defScope s_ValuesPart_fits) (by decide +kernel)) (fun _ _ _ _ _ => (pg_name (i := 4) nd rfl (by first | exact Or.inl rfl | exact Or.inr rfl))) (fun _ _ _ _ _ => pts_nil) (fun _ _ _ _ _ => (pe_own O_is_value (by decide) hr rfl passN (pa_cons (pv 4) (pa_cons (pe_fldU (K := K) (pv 2)) (pa_cons (pe_fldU (K := K) (pv 2)) pa_nil)))))) pa_nil)))))), ?_⟩
    clear nd
    obtain ⟨me, v, t, F, sc, S, d, rfl, ht, ⟨dx, b, l, fd, h1, h2, h3, h4⟩, q⟩ := h
    walk_at "vs"
    refine v_isi_th ht (by simp [sixT]) ?_
    by_cases htp : ∃ ts, t = .tup ts
    rotate_left
    · rw [isa_no fun ys h => htp ⟨ys, h⟩]
      walk_at "vs"
      have := q H .refl
      rw [show fitT S (fun _ => false) .vals t = false from by cases t with | tup ts => exact absurd ⟨ts, rfl⟩ htp | _ => rfl] at this
      exact this
    obtain ⟨ts, rfl⟩ := htp
    obtain ⟨a, xs, rfl, e, r⟩ := ht.tupI
    have hl := r.length
    show IsB (.bl true) _
    walk_at "vs"
    refine v_itB_t (SqT.of e) fun hz => ?_
    refine v_lc_tup (xs := xs) [] (fun i acc H' => acc = ((ts.take i).map (withinT S.bs S.ls 4)).map V.bl) (by simp) (fun H' c => SqT.of (c.tup e)) (fun H' c => rfl) ?_ ?_
    · rintro D i x acc H5 hi nD dS c5 hDl rfl
      obtain ⟨d, hd, rx⟩ := r.get hi
      have hil := (List.getElem?_eq_some_iff.mp hi).1
      walk_at "vs"
      refine ⟨rfl, ?_⟩
      walk_at "vs"
      refine v_fldE T.k_Scope (c5.at h1) (by simp) rfl ?_
      walk_at "vs"
      refine v_fldE T.k_Scope (c5.at h1) (by simp) rfl ?_
      walk_at "vs"
      refine ⟨x, d, F, b, l, S.bs, S.ls, rfl, rx.on0 c5, c5.at h2, c5.at h3, fun H6 c6 => ?_⟩
      refine v_lcA c5 hDl nD dS c6 (Nat.lt_of_lt_of_le (by simp only [List.length_map, List.length_take]; omega) hz) fun H7 c7 => ?_
      rw [← snoc_take hd, List.map_append, List.map_append]; rfl
    · rintro D acc H5 c5 nD hDl rfl
      rw [hl, List.take_length] at hDl
      walk_at "vs"
      refine ⟨D, ts.map (withinT S.bs S.ls 4), rfl, SqL.of hDl, ?_⟩
      rw [List.all_map]
      exact q H5 c5
abbrev s_RowsPart_fits : Stmt := (inClass (topS 43) 0)
theorem sc_RowsPart_fits : FnScope ["self", "thing", "scope", "deep", "one"] ["self", "thing", "scope", "deep"] (defScope s_RowsPart_fits) := ⟨rfl, rfl, rfl, by decide +kernel, rfl, by decide +kernel, by decide +kernel⟩
theorem ok_RowsPart_fits (T : Txt K mg) (D : MetAt K T.k_RowsPart.C "fits" "RowsPart.fits" s_RowsPart_fits) (n : Nat) (O_is_row : Own P w K mg base "is_row" (12 + 2 * n) ["thing", "scope", "deep"] (sp_isrow T.k_Scope.C n)) : OwnM P w K mg base T.k_RowsPart.C "fits" (12 + 2 * n + 1) ["self", "thing", "scope", "deep"] (sp_fitrows T.k_Scope.C n) := by
  refine ownM_of D (fun _ _ _ _ _ _ us hl => match us, hl with | [_, _, _, _], _ => rfl) (fnQ_of (k := 12 + 2 * n) (N := ["self", "thing", "scope", "deep", "one"]) sc_RowsPart_fits (fun vs H Q E h => ?_) (fun f cdv A outer s H vs Q E hr h => ?_))
  · obtain ⟨me, v, t, F, sc, S, d, rfl, _⟩ := h; rfl
  · have nd := sc_RowsPart_fits.nd
    have hu := L2H.roomH_of hr
    refine ⟨_, (pss_one (ps_ret (pe_and (pe_callB (call_uisi (K := K)) (by rfl) T.n_isinstance (by decide +kernel) (pa_cons (pv 1) (pa_cons (pe_bltn (v := .ty "tuple") (by rfl) T.n_tuple (by decide +kernel) rfl) pa_nil))) (pe_one (pe_callB (cr_uall (K := K) rfl) (by rfl) T.n_all (by decide +kernel) (pa_cons (pe_lc (own := [("one", 4)]) rfl nd (pi_uB (K := K) (pv 1)) (blkOk_by (N := ["self", "thing", "scope", "deep", "one"]) (sc := defScope s_RowsPart_fits) (by decide +kernel)) (fun _ _ _ _ _ => (pg_name (i := 4) nd rfl (by first | exact Or.inl rfl | exact Or.inr rfl))) (fun _ _ _ _ _ => pts_nil) (fun _ _ _ _ _ => (pe_own O_is_row (by omega) hr rfl passN (pa_cons (pv 4) (pa_cons (pv 2) (pa_cons (pe_op (op_uadd (K := K)) (pv 3) pe_int) pa_nil)))))) pa_nil)))))), ?_⟩
    clear nd
    obtain ⟨me, v, t, F, sc, S, m, rfl, hm, ht, hS, q⟩ := h
    walk_at "vs"
    refine v_isi_th ht (by simp [sixT]) ?_
    by_cases htp : ∃ ts, t = .tup ts
    rotate_left
    · rw [isa_no fun ys h => htp ⟨ys, h⟩]
      walk_at "vs"
      have := q H .refl
      rw [show fitT S (rowT S m) .rows t = false from by cases t with | tup ts => exact absurd ⟨ts, rfl⟩ htp | _ => rfl] at this
      exact this
    obtain ⟨ts, rfl⟩ := htp
    obtain ⟨a, xs, rfl, e, r⟩ := ht.tupI
    have hl := r.length
    show IsB (.bl true) _
    walk_at "vs"
    refine v_itB_t (SqT.of e) fun hz => ?_
    refine v_lc_tup (xs := xs) [] (fun i acc H' => acc = ((ts.take i).map (rowT S m)).map V.bl) (by simp) (fun H' c => SqT.of (c.tup e)) (fun H' c => rfl) ?_ ?_
    · rintro D i x acc H5 hi nD dS c5 hDl rfl
      obtain ⟨d, hd, rx⟩ := r.get hi
      have hil := (List.getElem?_eq_some_iff.mp hi).1
      walk_at "vs"
      refine ⟨rfl, ?_⟩
      walk_at "vs"
      refine ⟨x, d, F, sc, S, m, by rw [show (5 - (m : Int) + 1) = 6 - (m : Int) by omega], hm, rx.on0 c5, hS.on0 c5, fun H6 c6 => ?_⟩
      refine v_lcA c5 hDl nD dS c6 (Nat.lt_of_lt_of_le (by simp only [List.length_map, List.length_take]; omega) hz) fun H7 c7 => ?_
      rw [← snoc_take hd, List.map_append, List.map_append]; rfl
    · rintro D acc H5 c5 nD hDl rfl
      rw [hl, List.take_length] at hDl
      walk_at "vs"
      refine ⟨D, ts.map (rowT S m), rfl, SqL.of hDl, ?_⟩
      rw [List.all_map]
      exact q H5 c5
abbrev s_is_row : Stmt := topS 45
theorem sc_is_row : FnScope ["thing", "scope", "deep", "parts", "part", "one"] ["thing", "scope", "deep"] (defScope s_is_row) := ⟨rfl, rfl, rfl, by decide +kernel, rfl, by decide +kernel, by decide +kernel⟩
theorem st_is_row (T : Txt K mg) (D : DefAt K mg "is_row" s_is_row) (D_RowsPart_fits : MetAt K T.k_RowsPart.C "fits" "RowsPart.fits" s_RowsPart_fits) (O_parts_of : Own P w K mg base "parts_of" 1 ["word"] (sp_partsof (cs T))) (O_BoxPart_fits : OwnM P w K mg base T.k_BoxPart.C "fits" 2 ["self", "thing", "scope", "deep"] (sp_fit T.k_Scope.C .box)) (O_ListPart_fits : OwnM P w K mg base T.k_ListPart.C "fits" 2 ["self", "thing", "scope", "deep"] (sp_fit T.k_Scope.C .list)) (O_DoorPart_fits : OwnM P w K mg base T.k_DoorPart.C "fits" 2 ["self", "thing", "scope", "deep"] (sp_fit T.k_Scope.C .door)) (O_FunctionPart_fits : OwnM P w K mg base T.k_FunctionPart.C "fits" 2 ["self", "thing", "scope", "deep"] (sp_fit T.k_Scope.C .fn)) (O_ValuePart_fits : OwnM P w K mg base T.k_ValuePart.C "fits" 10 ["self", "thing", "scope", "deep"] (sp_fit T.k_Scope.C .val)) (O_ValuesPart_fits : OwnM P w K mg base T.k_ValuesPart.C "fits" 10 ["self", "thing", "scope", "deep"] (sp_fit T.k_Scope.C .vals)) (n : Nat) (O_is_row : Own P w K mg base "is_row" (12 + 2 * n) ["thing", "scope", "deep"] (sp_isrow T.k_Scope.C n)) : Own P w K mg base "is_row" (12 + 2 * n + 2) ["thing", "scope", "deep"] (sp_isrow T.k_Scope.C (n + 1)) := by
  have O_RowsPart_fits := ok_RowsPart_fits T D_RowsPart_fits n O_is_row
  refine own_of D (fun _ _ _ _ _ _ us hl => match us, hl with | [_, _, _], _ => rfl) (fnW_of (k := 12 + 2 * n + 1) (N := ["thing", "scope", "deep", "parts", "part", "one"]) sc_is_row (fun vs H Q E h => ?_) (fun f cdv A outer s H vs Q E hr h => ?_))
  · obtain ⟨v, t, F, sc, S, n, rfl, _⟩ := h; rfl
  · have nd := sc_is_row.nd
    have hu := L2H.roomH_of hr
    have TK : L2N.Takes (cxOf (L2N.CX P w) P w K mg base ["thing", "scope", "deep", "parts", "part", "one"] "is_row" (defScope s_is_row) f cdv A outer s H E) (fun cls d _ H => E cls d H) := L2N.takes_of rfl rfl rfl rfl
    refine ⟨_, (pss_cons (ps_if (PW.pt (pw_or (pt_cmpR op_gt (pv 2) (pe_con_ T.c_DEEPEST_programs rfl) (nomark _)) (pw_or (pt_not (pt_u (K := K) (pe_callB (call_uisi (K := K)) (by rfl) T.n_isinstance (by decide +kernel) (pa_cons (pv 0) (pa_cons (pe_bltn (v := .ty "tuple") (by rfl) T.n_tuple (by decide +kernel) rfl) pa_nil))))) (pw_or (pt_cmpR (op_ueq (K := K) hu) (pe_callB (call_ulen (K := K)) (by rfl) T.n_len (by decide +kernel) (pa_cons (pv 0) pa_nil)) pe_int (nomark _)) (pw_or1 (pt_not (pt_u (K := K) (pe_callB (call_uisi (K := K)) (by rfl) T.n_isinstance (by decide +kernel) (pa_cons (pe_ix (ix_u (K := K) hu) (pv 0) pe_int (fun _ _ => rfl)) (pa_cons (pe_bltn (v := .ty "str") (by rfl) T.n_str (by decide +kernel) rfl) pa_nil))))))))))
      (pss_one (ps_ret pe_bl)) pss_nil)
      (pss_cons (ps_set (i := 3) nd rfl (by first | exact Or.inl rfl | exact Or.inr rfl) (pe_own O_parts_of (by omega) hr rfl (fun σ => L2N.passAt TK σ) (pa_cons (pe_ix (ix_u (K := K) hu) (pv 0) pe_int (fun _ _ => rfl)) pa_nil)))
      (pss_cons (ps_if (PW.pt (pw_or (pt_cmpR op_isN (pv 3) pe_non (nomark _)) (pw_or (pt_cmpR (op_une (K := K) hu) (pe_callB (call_ulen (K := K)) (by rfl) T.n_len (by decide +kernel) (pa_cons (pv 3) pa_nil)) (pe_op op_sub (pe_callB (call_ulen (K := K)) (by rfl) T.n_len (by decide +kernel) (pa_cons (pv 0) pa_nil)) pe_int) (nomark _)) (pw_or1 (PW.pt (pw_and (pt_cmpR (op_ueq (K := K) hu) (pe_ix (ix_u (K := K) hu) (pv 0) pe_int (fun _ _ => rfl)) pe_str (nomark _)) (pw_and1 (pt_not (pt_u (K := K) (pe_fldU (K := K) (pv 1)))))))))))
      (pss_one (ps_ret pe_bl)) pss_nil)
      (pss_cons (ps_for (passes_of rfl) rfl (pi_zipB (K := K) rfl T.n_zip (pa_cons (pv 3) (pa_cons (pe_slice (sl_u (K := K)) (pv 0) (po_some pe_int) po_none) pa_nil))) (pg_tupU (K := K) (n := 2) rfl (pgs_cons (pg_name (i := 4) nd rfl (by first | exact Or.inl rfl | exact Or.inr rfl)) (pgs_cons (pg_name (i := 5) nd rfl (by first | exact Or.inl rfl | exact Or.inr rfl)) pgs_nil)))
      (pss_one (ps_if (pt_not (pt_u (K := K) (pe_or2 (pe_met O_BoxPart_fits (by omega) T.k_BoxPart.cl hr (fun σ => L2N.passAt TK σ) (pv 4) (pa_cons (pv 5) (pa_cons (pv 1) (pa_cons (pv 2) pa_nil)))) (pe_or2 (pe_met O_ListPart_fits (by omega) T.k_ListPart.cl hr (fun σ => L2N.passAt TK σ) (pv 4) (pa_cons (pv 5) (pa_cons (pv 1) (pa_cons (pv 2) pa_nil)))) (pe_or2 (pe_met O_DoorPart_fits (by omega) T.k_DoorPart.cl hr (fun σ => L2N.passAt TK σ) (pv 4) (pa_cons (pv 5) (pa_cons (pv 1) (pa_cons (pv 2) pa_nil)))) (pe_or2 (pe_met O_FunctionPart_fits (by omega) T.k_FunctionPart.cl hr (fun σ => L2N.passAt TK σ) (pv 4) (pa_cons (pv 5) (pa_cons (pv 1) (pa_cons (pv 2) pa_nil)))) (pe_or2 (pe_met O_ValuePart_fits (by omega) T.k_ValuePart.cl hr (fun σ => L2N.passAt TK σ) (pv 4) (pa_cons (pv 5) (pa_cons (pv 1) (pa_cons (pv 2) pa_nil)))) (pe_or2 (pe_met O_ValuesPart_fits (by omega) T.k_ValuesPart.cl hr (fun σ => L2N.passAt TK σ) (pv 4) (pa_cons (pv 5) (pa_cons (pv 1) (pa_cons (pv 2) pa_nil)))) (pe_met O_RowsPart_fits (by omega) T.k_RowsPart.cl hr (fun σ => L2N.passAt TK σ) (pv 4) (pa_cons (pv 5) (pa_cons (pv 1) (pa_cons (pv 2) pa_nil))))))))))))
      (pss_one (ps_ret pe_bl)) pss_nil)))
      (pss_one (ps_ret (pe_or (pe_cmpR (op_une (K := K) hu) (pe_ix (ix_u (K := K) hu) (pv 0) pe_int (fun _ _ => rfl)) pe_str (nomark _)) (pe_one (pe_cmpR (op_ueq (K := K) hu) (pe_callB (call_ulen (K := K)) (by rfl) T.n_len (by decide +kernel) (pa_cons (pe_ix (ix_u (K := K) hu) (pv 0) pe_int (fun _ _ => rfl)) pa_nil)) (pe_ix (ix_u (K := K) hu) (pe_fldU (K := K) (pv 1)) (pe_ix (ix_u (K := K) hu) (pv 0) pe_int (fun _ _ => rfl)) (fun _ _ => rfl)) (nomark _)))))))))), ?_⟩
    clear nd
    obtain ⟨v, t, F, sc, S, m, rfl, hm, ht, hS, q⟩ := h
    walk_at "vs"
    cases m with
    | zero =>
      refine v_iteD (fun _ => ?_) (fun h => absurd (by omega) h)
      walk_at "vs"
      exact q H .refl
    | succ k =>
    refine v_iteD (fun h => absurd h (by omega)) (fun _ => ?_)
    walk_at "vs"
    refine v_isi_th ht (by simp [sixT]) ?_
    by_cases htp : ∃ ts, t = .tup ts
    rotate_left
    · rw [isa_no fun ys h => htp ⟨ys, h⟩]
      walk_at "vs"
      have := q H .refl
      rw [rowT_no fun w r h => htp ⟨_, h⟩] at this
      exact this
    obtain ⟨ts, rfl⟩ := htp
    obtain ⟨a, xs, rfl, e, r⟩ := ht.tupI
    have hl := r.length
    show Tru K (.bl true) H _
    walk_at "vs"
    refine v_len_t (SqT.of e) ?_
    walk_at "vs"
    match ts, xs, r, hl with
    | [], [], _, _ =>
      refine v_iteD (fun _ => ?_) (fun h => absurd rfl h)
      walk_at "vs"
      have := q H .refl
      rw [rowT_no (fun w r h => by cases h)] at this
      exact this
    | t0 :: rest, x0 :: xr, .cons r0 rr, hl =>
    refine v_iteD (fun h => absurd h (by rw [List.length_cons]; omega)) (fun _ => ?_)
    walk_at "vs"
    refine v_ix_t (SqT.of e) (atI_0 _ _) ?_
    walk_at "vs"
    refine v_isi_th r0 (by simp [sixT]) ?_
    by_cases hs : ∃ w, t0 = .str w
    rotate_left
    · rw [show t0.isa "str" = false from by cases t0 with | str w => exact absurd ⟨w, rfl⟩ hs | _ => rfl]
      walk_at "vs"
      have := q H .refl
      rw [rowT_no (fun w r h => by cases h; exact hs ⟨_, rfl⟩)] at this
      exact this
    obtain ⟨w, rfl⟩ := hs
    show Tru K (.bl true) H _
    cases r0
    walk_at "vs"
    refine v_ix_t (SqT.of e) (atI_0 _ _) ?_
    walk_at "vs"
    have hxr : xr.length = rest.length := rr.length
    rw [rowT] at q
    refine ⟨w, rfl, fun v1 H1 c1 hv1 => ?_⟩
    have e1 := c1.tup e
    have hS1 := hS.on0 c1
    walk_at "vp"
    refine v_join (fun σ H' => ∃ l ps ks, partsOf w = some ks ∧ ks.length = rest.length ∧ H1 l = some (.lst ps) ∧ PtsAt (cs T) H1 ps ks ∧ (!decide (w = Str.ofString "return") || S.ins) = true ∧ σ = [some (.ref a), some (.ref sc), some (.int (6 - ((k + 1 : Nat) : Int))), some (.ref l), none, none] ∧ H' = H1) ?_ ?_
    rotate_left
    · intro U hU
      walk_at "vs"
      cases hpo : partsOf w with
      | none =>
        rw [hpo] at hv1
        have hv1 : v1 = .non := hv1
        subst hv1
        refine ⟨rfl, ?_⟩
        walk_at "vs"
        refine v_iteT ?_
        walk_at "vs"
        have := q H1 c1
        rw [hpo] at this
        exact this
      | some ks =>
      rw [hpo] at hv1
      obtain ⟨l, ps, rfl, hl1, hps⟩ := hv1
      replace q : ∀ H', Chg [] H H' → Q (.bl ((!decide (w = Str.ofString "return") || S.ins) && (fitsT S (rowT S k) ks rest && (!decide (w = Str.ofString "call") || callT S rest)))) H' := fun H' c => by
        have := q H' c
        rw [hpo] at this
        exact this
      refine ⟨rfl, ?_⟩
      rw [show decide (V.ref l = V.non) = false from decide_eq_false (by intro h; cases h)]
      have hpl := hps.length
      walk_at "vs"
      refine v_len_l (SqL.of hl1) ?_
      walk_at "vs"
      refine v_len_t (SqT.of e1) ?_
      walk_at "vs"
      refine v_iteN (fun hne => ?_) (fun heq => ?_)
      · walk_at "vs"
        have := q H1 c1
        rw [fitsT_len (by rw [List.length_cons] at hne; omega), Bool.false_and, Bool.and_false] at this
        exact this
      rw [List.length_cons] at heq
      have hkr : ks.length = rest.length := by omega
      walk_at "vs"
      obtain ⟨dx, b, li, fd, g1, g2, g3, g4⟩ := hS1
      refine v_ix_t (SqT.of e1) (atI_0 _ _) ?_
      walk_at "vs"
      refine v_iteD (fun hr => ?_) (fun hr => ?_)
      · walk_at "vs"
        refine v_fldE T.k_Scope g1 (by simp) rfl ?_
        walk_at "vs"
        cases hin : S.ins with
        | false =>
          walk_at "vs"
          have := q H1 c1
          rw [decide_eq_true hr, hin] at this
          exact this
        | true =>
          walk_at "vs"
          exact hU _ _ ⟨l, ps, ks, hpo, hkr, hl1, hps, by rw [hin, Bool.or_true], rfl, rfl⟩
      · walk_at "vs"
        exact hU _ _ ⟨l, ps, ks, hpo, hkr, hl1, hps, by rw [decide_eq_false hr]; rfl, rfl, rfl⟩
    rintro σ H1' ⟨l, ps, ks, hpo, hkr, hl1, hps, hret, rfl, rfl⟩
    replace q : ∀ H', Chg [] H H' → Q (.bl (fitsT S (rowT S k) ks rest && (!decide (w = Str.ofString "call") || callT S rest))) H' := fun H' c => by
      have := q H' c
      rw [hpo] at this
      have this : Q (.bl ((!decide (w = Str.ofString "return") || S.ins) && (fitsT S (rowT S k) ks rest && (!decide (w = Str.ofString "call") || callT S rest)))) H' := this
      rw [hret, Bool.true_and] at this
      exact this
    have hpl := hps.length
    walk_at "vs"
    refine v_sl_t e1 fun p2 H2 c2 h2 => ?_
    rw [cut_1, List.drop_one, List.tail_cons] at h2
    walk_at "vs"
    refine v_zip_lt (SqL.of (c2.at hl1)) (SqT.of h2) ?_
    have k2 := c1.trans c2
    refine v_for_zipB (b1 := false) (b2 := true) (xs := ps) (ys := xr) (fun i σ H' => (∃ v4 v5, σ = [some (.ref a), some (.ref sc), some (.int (6 - ((k + 1 : Nat) : Int))), some (.ref l), v4, v5]) ∧ Chg [] H2 H' ∧ ∀ (j : Nat) (kk : PK) (t : Th), j < i → ks[j]? = some kk → rest[j]? = some t → fitT S (rowT S k) kk t = true) ⟨⟨_, _, rfl⟩, .refl, by omega⟩ ?_ ?_ ?_
    · rintro i σ H' ⟨_, c, _⟩
      exact ⟨SqL.of ((c2.trans c).at hl1), SqT.of (c.tup h2)⟩
    · rintro i x y σ H3 tp H4 hx hy ⟨⟨v4, v5, rfl⟩, c3, hp⟩ ntp c4 htp
      obtain ⟨kk, hkk, pa, pdx, rfl, hpa⟩ := (((hps.on0 c2).on0 c3).on0 c4).get hx
      obtain ⟨t, ht, ry⟩ := rr.get hy
      have k4 := (k2.trans c3).trans c4
      have ry4 := ry.on0 k4
      have hS4 := hS.on0 k4
      refine v_gtup (SqT.of htp) rfl ?_
      walk_at "vs"
      refine v_teJ (fun x H5 => x = .bl (fitT S (rowT S k) kk t) ∧ Chg [] H4 H5) ?_ ?_
      rotate_left
      · intro U hU
        cases kk with
        | box =>
          refine v_orL ?_
          walk_at "vs"
          refine v_ati hpa rfl ?_
          walk_at "vs"
          exact ⟨pa, y, t, F, sc, S, _, rfl, ry4, hS4, fun H5 c5 => hU _ _ ⟨show V.bl (fitT S (fun _ => false) .box t) = .bl (fitT S (rowT S k) .box t) from congrArg V.bl (rfl), c5⟩⟩
        | list =>
          refine v_orR (v_orL ?_)
          walk_at "vs"
          refine v_ati hpa rfl ?_
          walk_at "vs"
          exact ⟨pa, y, t, F, sc, S, _, rfl, ry4, hS4, fun H5 c5 => hU _ _ ⟨show V.bl (fitT S (fun _ => false) .list t) = .bl (fitT S (rowT S k) .list t) from congrArg V.bl (rfl), c5⟩⟩
        | door =>
          refine v_orR (v_orR (v_orL ?_))
          walk_at "vs"
          refine v_ati hpa rfl ?_
          walk_at "vs"
          exact ⟨pa, y, t, F, sc, S, _, rfl, ry4, hS4, fun H5 c5 => hU _ _ ⟨show V.bl (fitT S (fun _ => false) .door t) = .bl (fitT S (rowT S k) .door t) from congrArg V.bl (rfl), c5⟩⟩
        | fn =>
          refine v_orR (v_orR (v_orR (v_orL ?_)))
          walk_at "vs"
          refine v_ati hpa rfl ?_
          walk_at "vs"
          exact ⟨pa, y, t, F, sc, S, _, rfl, ry4, hS4, fun H5 c5 => hU _ _ ⟨show V.bl (fitT S (fun _ => false) .fn t) = .bl (fitT S (rowT S k) .fn t) from congrArg V.bl (rfl), c5⟩⟩
        | val =>
          refine v_orR (v_orR (v_orR (v_orR (v_orL ?_))))
          walk_at "vs"
          refine v_ati hpa rfl ?_
          walk_at "vs"
          exact ⟨pa, y, t, F, sc, S, _, rfl, ry4, hS4, fun H5 c5 => hU _ _ ⟨show V.bl (fitT S (fun _ => false) .val t) = .bl (fitT S (rowT S k) .val t) from congrArg V.bl (rfl), c5⟩⟩
        | vals =>
          refine v_orR (v_orR (v_orR (v_orR (v_orR (v_orL ?_)))))
          walk_at "vs"
          refine v_ati hpa rfl ?_
          walk_at "vs"
          exact ⟨pa, y, t, F, sc, S, _, rfl, ry4, hS4, fun H5 c5 => hU _ _ ⟨show V.bl (fitT S (fun _ => false) .vals t) = .bl (fitT S (rowT S k) .vals t) from congrArg V.bl (by cases t <;> rfl), c5⟩⟩
        | rows =>
          refine v_orR (v_orR (v_orR (v_orR (v_orR (v_orR (?_))))))
          walk_at "vs"
          refine v_ati hpa rfl ?_
          walk_at "vs"
          exact ⟨pa, y, t, F, sc, S, k, by rw [show (6 - ((k + 1 : Nat) : Int)) = 5 - (k : Int) by omega], by omega, ry4, hS4, fun H5 c5 => hU _ _ ⟨rfl, c5⟩⟩
      rintro xx H5 ⟨rfl, c5⟩
      have k5 := k4.trans c5
      walk_at "vs"
      refine v_iteNB (fun hb => ?_) (fun hb => ?_)
      · walk_at "vs"
        have := q H5 k5
        rw [fitsT_one hkk ht hb, Bool.false_and] at this
        exact this
      · walk_at "vs"
        refine ⟨⟨_, _, rfl⟩, (c3.trans c4).trans c5, fun j k2 t2 hj h1 h2 => ?_⟩
        by_cases hji : j < i
        · exact hp j k2 t2 hji h1 h2
        · have : j = i := by omega
          subst this
          rw [hkk] at h1; rw [ht] at h2
          cases h1; cases h2
          exact hb
    · rintro σ H3 ⟨⟨v4, v5, rfl⟩, c3, hp⟩
      have hall : fitsT S (rowT S k) ks rest = true := fitsT_all hkr fun j kk t h1 h2 => hp j kk t (by
        have := (List.getElem?_eq_some_iff.mp h1).1
        omega) h1 h2
      rw [hall, Bool.true_and] at q
      have k3 := k2.trans c3
      walk_at "vs"
      refine v_ix_t (SqT.of (k3.tup e)) (atI_0 _ _) ?_
      walk_at "vs"
      refine v_iteN (fun hne => ?_) (fun heq => ?_)
      · have := q H3 k3
        rw [decide_eq_false hne] at this
        exact this
      subst heq
      rw [decide_eq_true rfl] at q
      walk_at "vs"
      rw [call_parts] at hpo
      cases hpo
      match rest, xr, rr, hkr, hall with
      | [], _, _, hkr, _ => simp at hkr
      | [_], _, _, hkr, _ => simp at hkr
      | [_, _], _, _, hkr, _ => simp at hkr
      | _ :: _ :: _ :: _ :: _, _, _, hkr, _ => simp at hkr
      | [t1, t2, t3], [x1, x2, x3], .cons r1 (.cons r2 (.cons r3 .nil)), _, hall =>
      have hall' : (oneT S.bs t1 && (oneT (S.fs.map Prod.fst) t2 && (fitT S (rowT S k) .vals t3 && true))) = true := hall
      simp only [Bool.and_eq_true] at hall'
      obtain ⟨_, hf, hvs, _⟩ := hall'
      obtain ⟨f, rfl, hfm⟩ := oneT_str hf
      obtain ⟨vs, rfl, _⟩ := fitT_vals hvs
      obtain ⟨va, vv, rfl, ev, rv⟩ := r3.tupI
      cases r2
      obtain ⟨fi, hfi⟩ := fnK_val hfm
      refine v_ix_t (v := .ref va) (SqT.of (k3.tup e)) rfl ?_
      walk_at "vs"
      refine v_len_t (SqT.of (k3.tup ev)) ?_
      walk_at "vs"
      obtain ⟨dx, b, li, fd, g1, g2, g3, g4⟩ := hS.on0 k3
      refine v_fldE T.k_Scope g1 (by simp) rfl ?_
      walk_at "vs"
      refine v_ix_t (v := .str f) (SqT.of (k3.tup e)) rfl ?_
      refine v_ix_d (v := .int fi) (by rw [← hfi]; exact DGet.k (k := .inr f) g4) ?_
      walk_at "vs"
      have := q H3 k3
      have this : Q (.bl (decide (valV (fnK S.fs) (.inr f) = some (.int vs.length)))) H3 := this
      rw [hfi] at this
      rw [rv.length]
      rw [show decide ((vs.length : Int) = fi) = decide (some (V.int fi) = some (V.int vs.length)) from decide_eq_decide.mpr ⟨fun h => by rw [h], fun h => by injection h with h; injection h with h; exact h.symm⟩]
      exact this
theorem ok_is_row (T : Txt K mg) (D : DefAt K mg "is_row" s_is_row) (D_RowsPart_fits : MetAt K T.k_RowsPart.C "fits" "RowsPart.fits" s_RowsPart_fits) (O_parts_of : Own P w K mg base "parts_of" 1 ["word"] (sp_partsof (cs T))) (O_BoxPart_fits : OwnM P w K mg base T.k_BoxPart.C "fits" 2 ["self", "thing", "scope", "deep"] (sp_fit T.k_Scope.C .box)) (O_ListPart_fits : OwnM P w K mg base T.k_ListPart.C "fits" 2 ["self", "thing", "scope", "deep"] (sp_fit T.k_Scope.C .list)) (O_DoorPart_fits : OwnM P w K mg base T.k_DoorPart.C "fits" 2 ["self", "thing", "scope", "deep"] (sp_fit T.k_Scope.C .door)) (O_FunctionPart_fits : OwnM P w K mg base T.k_FunctionPart.C "fits" 2 ["self", "thing", "scope", "deep"] (sp_fit T.k_Scope.C .fn)) (O_ValuePart_fits : OwnM P w K mg base T.k_ValuePart.C "fits" 10 ["self", "thing", "scope", "deep"] (sp_fit T.k_Scope.C .val)) (O_ValuesPart_fits : OwnM P w K mg base T.k_ValuesPart.C "fits" 10 ["self", "thing", "scope", "deep"] (sp_fit T.k_Scope.C .vals)) : ∀ n : Nat, Own P w K mg base "is_row" (12 + 2 * n) ["thing", "scope", "deep"] (sp_isrow T.k_Scope.C n)
  | 0 => own_of (k := 12) D (fun _ _ _ _ _ _ us hl => match us, hl with | [_, _, _], _ => rfl) (fnW_of (N := ["thing", "scope", "deep", "parts", "part", "one"]) sc_is_row (fun vs H Q E h => ((show ∀ vs H Q E, ¬ (sp_isrow T.k_Scope.C 0 : Sp) vs H Q E from fun _ _ _ _ ⟨_, _, _, _, _, _, _, h, _⟩ => absurd h (Nat.not_lt_zero _)) vs H Q E h).elim) (fun f cdv A outer s H vs Q E hr h => ((show ∀ vs H Q E, ¬ (sp_isrow T.k_Scope.C 0 : Sp) vs H Q E from fun _ _ _ _ ⟨_, _, _, _, _, _, _, h, _⟩ => absurd h (Nat.not_lt_zero _)) vs H Q E h).elim))
  | n + 1 => st_is_row T D D_RowsPart_fits O_parts_of O_BoxPart_fits O_ListPart_fits O_DoorPart_fits O_FunctionPart_fits O_ValuePart_fits O_ValuesPart_fits n (ok_is_row T D D_RowsPart_fits O_parts_of O_BoxPart_fits O_ListPart_fits O_DoorPart_fits O_FunctionPart_fits O_ValuePart_fits O_ValuesPart_fits n)
abbrev s_is_tuple : Stmt := topS 47
theorem sc_is_tuple : FnScope ["thing", "most"] ["thing", "most"] (defScope s_is_tuple) := ⟨rfl, rfl, rfl, by decide +kernel, rfl, by decide +kernel, by decide +kernel⟩
theorem ok_is_tuple (T : Txt K mg) (D : DefAt K mg "is_tuple" s_is_tuple) : Own P w K mg base "is_tuple" 1 ["thing", "most"] (sp_istup) := by
  refine own_of D (fun _ _ _ _ _ _ us hl => match us, hl with | [_, _], _ => rfl) (fnW_of (N := ["thing", "most"]) sc_is_tuple (fun vs H Q E h => ?_) (fun f cdv A outer s H vs Q E hr h => ?_))
  · obtain ⟨v, t, F, n, rfl, _⟩ := h; rfl
  · have nd := sc_is_tuple.nd
    have hu := L2H.roomH_of hr
    refine ⟨_, (pss_one (ps_ret (pe_and (pe_callB (call_uisi (K := K)) (by rfl) T.n_isinstance (by decide +kernel) (pa_cons (pv 0) (pa_cons (pe_bltn (v := .ty "tuple") (by rfl) T.n_tuple (by decide +kernel) rfl) pa_nil))) (pe_one (pe_cmpR op_le (pe_callB (call_ulen (K := K)) (by rfl) T.n_len (by decide +kernel) (pa_cons (pv 0) pa_nil)) (pv 1) (nomark _)))))), ?_⟩
    clear nd
    obtain ⟨v, t, F, n, rfl, ht, q⟩ := h
    cases ht with
    | str hl => walk_at "vs"; exact q H .refl
    | tup e r =>
      walk_at "vs"
      refine v_isi_t_tuple e ?_
      walk_at "vs"
      refine v_len_t (SqT.of e) ?_
      walk_at "vs"
      rw [r.length]
      exact q H .refl
    | lst f e r => walk_at "vs"; refine v_isi_l_tuple e ?_; walk_at "vs"; exact q H .refl
    | dic f e => walk_at "vs"; refine v_isi_d0 e (by simp [sixT]) (by decide) ?_; walk_at "vs"; exact q H .refl
    | non => walk_at "vs"; exact q H .refl
    | bl b => walk_at "vs"; exact q H .refl
    | int i => walk_at "vs"; exact q H .refl
abbrev s_is_pair : Stmt := topS 48
theorem sc_is_pair : FnScope ["thing"] ["thing"] (defScope s_is_pair) := ⟨rfl, rfl, rfl, by decide +kernel, rfl, by decide +kernel, by decide +kernel⟩
theorem ok_is_pair (T : Txt K mg) (D : DefAt K mg "is_pair" s_is_pair) (O_is_name : Own P w K mg base "is_name" 1 ["thing"] (sp_isname)) : Own P w K mg base "is_pair" 2 ["thing"] (sp_ispair) := by
  refine own_of D (fun _ _ _ _ _ _ us hl => match us, hl with | [_], _ => rfl) (fnW_of (N := ["thing"]) sc_is_pair (fun vs H Q E h => ?_) (fun f cdv A outer s H vs Q E hr h => ?_))
  · obtain ⟨v, t, F, rfl, _⟩ := h; rfl
  · have nd := sc_is_pair.nd
    have hu := L2H.roomH_of hr
    have TK : L2N.Takes (cxOf (L2N.CX P w) P w K mg base ["thing"] "is_pair" (defScope s_is_pair) f cdv A outer s H E) (fun cls d _ H => E cls d H) := L2N.takes_of rfl rfl rfl rfl
    refine ⟨_, (pss_one (ps_ret (pe_and (pe_callB (call_uisi (K := K)) (by rfl) T.n_isinstance (by decide +kernel) (pa_cons (pv 0) (pa_cons (pe_bltn (v := .ty "tuple") (by rfl) T.n_tuple (by decide +kernel) rfl) pa_nil))) (pe_and (pe_cmpR (op_ueq (K := K) hu) (pe_callB (call_ulen (K := K)) (by rfl) T.n_len (by decide +kernel) (pa_cons (pv 0) pa_nil)) pe_int (nomark _)) (pe_one (pe_own O_is_name (by decide) hr rfl (fun σ => L2N.passAt TK σ) (pa_cons (pe_ix (ix_u (K := K) hu) (pv 0) pe_int (fun _ _ => rfl)) pa_nil))))))), ?_⟩
    clear nd
    obtain ⟨v, t, F, rfl, ht, q⟩ := h
    cases ht with
    | str hl => walk_at "vs"; exact q H .refl
    | tup e r =>
      rename_i a xs ts
      walk_at "vs"
      refine v_isi_t_tuple e ?_
      walk_at "vs"
      refine v_len_t (SqT.of e) ?_
      walk_at "vs"
      have hl := r.length
      refine v_iteD (fun h2 => ?_) (fun h2 => ?_)
      · match ts, xs, r with
        | [t1, t2], [x1, x2], .cons r1 (.cons r2 .nil) =>
          walk_at "vs"
          refine v_ix_t (SqT.of e) (atI_0 _ _) ?_
          walk_at "vs"
          exact ⟨x1, t1, F, rfl, r1, fun H' c => q H' c⟩
        | [], _, r => rw [List.length_nil] at hl; omega
        | [_], _, r => simp at hl; omega
        | _ :: _ :: _ :: _, _, r => simp at hl; omega
        | [_, _], [], r => simp at hl
        | [_, _], [_], r => simp at hl
        | [_, _], _ :: _ :: _ :: _, r => simp at hl
      · walk_at "vs"
        have := q H .refl
        match ts, hl with
        | [], _ => exact this
        | [_], _ => exact this
        | [_, _], hl => simp at hl; omega
        | _ :: _ :: _ :: _, _ => exact this
    | lst f e r => walk_at "vs"; refine v_isi_l_tuple e ?_; walk_at "vs"; exact q H .refl
    | dic f e => walk_at "vs"; refine v_isi_d0 e (by simp [sixT]) (by decide) ?_; walk_at "vs"; exact q H .refl
    | non => walk_at "vs"; exact q H .refl
    | bl b => walk_at "vs"; exact q H .refl
    | int i => walk_at "vs"; exact q H .refl
abbrev s_are_numbers : Stmt := topS 49
theorem sc_are_numbers : FnScope ["thing", "most", "one"] ["thing", "most"] (defScope s_are_numbers) := ⟨rfl, rfl, rfl, by decide +kernel, rfl, by decide +kernel, by decide +kernel⟩
theorem ok_are_numbers (T : Txt K mg) (D : DefAt K mg "are_numbers" s_are_numbers) (O_is_tuple : Own P w K mg base "is_tuple" 1 ["thing", "most"] (sp_istup)) (O_is_number : Own P w K mg base "is_number" 1 ["thing"] (sp_isnum)) : Own P w K mg base "are_numbers" 2 ["thing", "most"] (sp_arenums) := by
  refine own_of D (fun _ _ _ _ _ _ us hl => match us, hl with | [_, _], _ => rfl) (fnW_of (N := ["thing", "most", "one"]) sc_are_numbers (fun vs H Q E h => ?_) (fun f cdv A outer s H vs Q E hr h => ?_))
  · obtain ⟨v, t, F, n, rfl, _⟩ := h; rfl
  · have nd := sc_are_numbers.nd
    have hu := L2H.roomH_of hr
    have TK : L2N.Takes (cxOf (L2N.CX P w) P w K mg base ["thing", "most", "one"] "are_numbers" (defScope s_are_numbers) f cdv A outer s H E) (fun cls d _ H => E cls d H) := L2N.takes_of rfl rfl rfl rfl
    refine ⟨_, (pss_one (ps_ret (pe_and (pe_own O_is_tuple (by decide) hr rfl (fun σ => L2N.passAt TK σ) (pa_cons (pv 0) (pa_cons (pv 1) pa_nil))) (pe_one (pe_callB (cr_uall (K := K) rfl) (by rfl) T.n_all (by decide +kernel) (pa_cons (pe_lc (own := [("one", 2)]) rfl nd (pi_u (K := K) (pv 0)) (blkOk_by (N := ["thing", "most", "one"]) (sc := defScope s_are_numbers) (by decide +kernel)) (fun _ _ _ _ _ => (pg_name (i := 2) nd rfl (by first | exact Or.inl rfl | exact Or.inr rfl))) (fun _ _ _ _ _ => pts_nil) (fun _ _ _ _ _ => (pe_own O_is_number (by decide) hr rfl passN (pa_cons (pv 2) pa_nil)))) pa_nil)))))), ?_⟩
    clear nd
    obtain ⟨v, t, F, n, rfl, hn, ht, q⟩ := h
    walk_at "vs"
    refine ⟨v, t, F, n, rfl, ht, fun H1 c1 => ?_⟩
    cases ht with
    | str hl => walk_at "vs"; exact q H1 c1
    | tup e r =>
      rename_i a xs ts
      walk_at "vs"
      refine v_iteD (fun h2 => ?_) (fun h2 => ?_)
      · walk_at "vs"
        refine v_it_t (SqT.of (c1.tup e)) ?_
        refine v_lc_tup (xs := xs) [] (fun i acc H' => acc = ((ts.take i).map numT).map V.bl) (by simp) (fun H' c => SqT.of (c.tup (c1.tup e))) (fun H' c => rfl) ?_ ?_
        · rintro D i x acc H5 hi nD dS c5 hDl rfl
          obtain ⟨d, hd, rx⟩ := r.get hi
          have htk : ts.take (i + 1) = ts.take i ++ [d] := by rw [List.take_add_one, hd]; rfl
          walk_at "vs"
          refine ⟨rfl, ?_⟩
          walk_at "vs"
          refine ⟨x, d, F, rfl, (rx.on0 c1).on0 c5, fun H6 c6 => ?_⟩
          refine v_lcA c5 hDl nD dS c6 (line9' (by simp only [List.length_map, List.length_take]; omega)) fun H7 c7 => ?_
          rw [htk, List.map_append, List.map_append]; rfl
        · rintro D acc H5 c5 nD hDl rfl
          rw [r.length, List.take_length] at hDl
          walk_at "vs"
          refine ⟨D, ts.map numT, rfl, SqL.of hDl, ?_⟩
          have := q H5 (c1.trans c5)
          rw [numsT, decide_eq_true (by omega : ts.length ≤ n), Bool.true_and] at this
          rw [List.all_map]
          exact this
      · walk_at "vs"
        have := q H1 c1
        rw [numsT, decide_eq_false (by omega : ¬ ts.length ≤ n), Bool.false_and] at this
        exact this
    | lst f e r => walk_at "vs"; exact q H1 c1
    | dic f e => walk_at "vs"; exact q H1 c1
    | non => walk_at "vs"; exact q H1 c1
    | bl b => walk_at "vs"; exact q H1 c1
    | int i => walk_at "vs"; exact q H1 c1
abbrev s_are_unlike : Stmt := topS 46
theorem sc_are_unlike : FnScope ["names"] ["names"] (defScope s_are_unlike) := ⟨rfl, rfl, rfl, by decide +kernel, rfl, by decide +kernel, by decide +kernel⟩
theorem ok_are_unlike (T : Txt K mg) (D : DefAt K mg "are_unlike" s_are_unlike) : Own P w K mg base "are_unlike" 1 ["names"] (sp_unlike) := by
  refine own_of D (fun _ _ _ _ _ _ us hl => match us, hl with | [_], _ => rfl) (fnW_of (N := ["names"]) sc_are_unlike (fun vs H Q E h => ?_) (fun f cdv A outer s H vs Q E hr h => ?_))
  · obtain ⟨b, ns, rfl, _⟩ := h; rfl
  · have nd := sc_are_unlike.nd
    have hu := L2H.roomH_of hr
    refine ⟨_, (pss_one (ps_ret (pe_cmpR (op_ueq (K := K) hu) (pe_callB (call_ulenS (K := K) (w := w)) (by rfl) T.n_len (by decide +kernel) (pa_cons (pv 0) pa_nil)) (pe_callB (call_ulenS (K := K) (w := w)) (by rfl) T.n_len (by decide +kernel) (pa_cons (pe_callTy (cr_setOfS (K := K) (w := w) rfl) (by rfl) T.n_set (by decide +kernel) (pa_cons (pv 0) pa_nil)) pa_nil)) (nomark _)))), ?_⟩
    clear nd
    obtain ⟨b, ns, rfl, hb, hl, q⟩ := h
    walk_at "vs"
    refine v_lenS_l (SqL.of hb) ?_
    walk_at "vs"
    refine v_set_of (SqL.of hb) hl fun p c H1 np c1 hc hp => ?_
    walk_at "vs"
    refine v_lenS_set hp fun ⟨ms, h1, h2, h3⟩ => ?_
    rw [List.length_map, ← h3]
    walk_at "vs"
    rw [show decide ((ns.length : Int) = (ms.length : Int)) = decide (ns.length = ms.length) from decide_eq_decide.mpr (by omega), nodup_len h1 fun k => by rw [h2 k, decide_eq_true_eq]]
    exact q H1 c1
abbrev s_are_names : Stmt := topS 50
theorem sc_are_names : FnScope ["thing", "most", "one"] ["thing", "most"] (defScope s_are_names) := ⟨rfl, rfl, rfl, by decide +kernel, rfl, by decide +kernel, by decide +kernel⟩
theorem ok_are_names (T : Txt K mg) (D : DefAt K mg "are_names" s_are_names) (O_is_tuple : Own P w K mg base "is_tuple" 1 ["thing", "most"] (sp_istup)) (O_is_name : Own P w K mg base "is_name" 1 ["thing"] (sp_isname)) : Own P w K mg base "are_names" 2 ["thing", "most"] (sp_arenames) := by
  refine own_of D (fun _ _ _ _ _ _ us hl => match us, hl with | [_, _], _ => rfl) (fnW_of (N := ["thing", "most", "one"]) sc_are_names (fun vs H Q E h => ?_) (fun f cdv A outer s H vs Q E hr h => ?_))
  · obtain ⟨v, t, F, n, rfl, _⟩ := h; rfl
  · have nd := sc_are_names.nd
    have hu := L2H.roomH_of hr
    have TK : L2N.Takes (cxOf (L2N.CX P w) P w K mg base ["thing", "most", "one"] "are_names" (defScope s_are_names) f cdv A outer s H E) (fun cls d _ H => E cls d H) := L2N.takes_of rfl rfl rfl rfl
    refine ⟨_, (pss_one (ps_ret (pe_and (pe_own O_is_tuple (by decide) hr rfl (fun σ => L2N.passAt TK σ) (pa_cons (pv 0) (pa_cons (pv 1) pa_nil))) (pe_one (pe_callB (cr_uall (K := K) rfl) (by rfl) T.n_all (by decide +kernel) (pa_cons (pe_lc (own := [("one", 2)]) rfl nd (pi_u (K := K) (pv 0)) (blkOk_by (N := ["thing", "most", "one"]) (sc := defScope s_are_names) (by decide +kernel)) (fun _ _ _ _ _ => (pg_name (i := 2) nd rfl (by first | exact Or.inl rfl | exact Or.inr rfl))) (fun _ _ _ _ _ => pts_nil) (fun _ _ _ _ _ => (pe_own O_is_name (by decide) hr rfl passN (pa_cons (pv 2) pa_nil)))) pa_nil)))))), ?_⟩
    clear nd
    obtain ⟨v, t, F, n, rfl, hn, ht, q⟩ := h
    walk_at "vs"
    refine ⟨v, t, F, n, rfl, ht, fun H1 c1 => ?_⟩
    cases ht with
    | str hl => walk_at "vs"; exact q H1 c1
    | tup e r =>
      rename_i a xs ts
      walk_at "vs"
      refine v_iteD (fun h2 => ?_) (fun h2 => ?_)
      · walk_at "vs"
        refine v_it_t (SqT.of (c1.tup e)) ?_
        refine v_lc_tup (xs := xs) [] (fun i acc H' => acc = ((ts.take i).map nameT).map V.bl) (by simp) (fun H' c => SqT.of (c.tup (c1.tup e))) (fun H' c => rfl) ?_ ?_
        · rintro D i x acc H5 hi nD dS c5 hDl rfl
          obtain ⟨d, hd, rx⟩ := r.get hi
          walk_at "vs"
          refine ⟨rfl, ?_⟩
          walk_at "vs"
          refine ⟨x, d, F, rfl, (rx.on0 c1).on0 c5, fun H6 c6 => ?_⟩
          refine v_lcA c5 hDl nD dS c6 (line9' (by simp only [List.length_map, List.length_take]; omega)) fun H7 c7 => ?_
          rw [← snoc_take hd, List.map_append, List.map_append]; rfl
        · rintro D acc H5 c5 nD hDl rfl
          rw [r.length, List.take_length] at hDl
          walk_at "vs"
          refine ⟨D, ts.map nameT, rfl, SqL.of hDl, ?_⟩
          have := q H5 (c1.trans c5)
          rw [namsT, decide_eq_true (by omega : ts.length ≤ n), Bool.true_and] at this
          rw [List.all_map]
          exact this
      · walk_at "vs"
        have := q H1 c1
        rw [namsT, decide_eq_false (by omega : ¬ ts.length ≤ n), Bool.false_and] at this
        exact this
    | lst f e r => walk_at "vs"; exact q H1 c1
    | dic f e => walk_at "vs"; exact q H1 c1
    | non => walk_at "vs"; exact q H1 c1
    | bl b => walk_at "vs"; exact q H1 c1
    | int i => walk_at "vs"; exact q H1 c1
abbrev s_are_stores : Stmt := topS 51
theorem sc_are_stores : FnScope ["boxes", "lists", "one"] ["boxes", "lists"] (defScope s_are_stores) := ⟨rfl, rfl, rfl, by decide +kernel, rfl, by decide +kernel, by decide +kernel⟩
theorem ok_are_stores (T : Txt K mg) (D : DefAt K mg "are_stores" s_are_stores) (O_is_tuple : Own P w K mg base "is_tuple" 1 ["thing", "most"] (sp_istup)) (O_is_pair : Own P w K mg base "is_pair" 2 ["thing"] (sp_ispair)) (O_is_number : Own P w K mg base "is_number" 1 ["thing"] (sp_isnum)) (O_are_numbers : Own P w K mg base "are_numbers" 2 ["thing", "most"] (sp_arenums)) (O_are_unlike : Own P w K mg base "are_unlike" 1 ["names"] (sp_unlike)) : Own P w K mg base "are_stores" 3 ["boxes", "lists"] (sp_stores) := by
  refine own_of D (fun _ _ _ _ _ _ us hl => match us, hl with | [_, _], _ => rfl) (fnW_of (N := ["boxes", "lists", "one"]) sc_are_stores (fun vs H Q E h => ?_) (fun f cdv A outer s H vs Q E hr h => ?_))
  · obtain ⟨v1, v2, t1, t2, F, rfl, _⟩ := h; rfl
  · have nd := sc_are_stores.nd
    have hu := L2H.roomH_of hr
    have TK : L2N.Takes (cxOf (L2N.CX P w) P w K mg base ["boxes", "lists", "one"] "are_stores" (defScope s_are_stores) f cdv A outer s H E) (fun cls d _ H => E cls d H) := L2N.takes_of rfl rfl rfl rfl
    refine ⟨_, (pss_cons (ps_if (PW.pt (pw_or (pt_not (pt_u (K := K) (pe_own O_is_tuple (by decide) hr rfl (fun σ => L2N.passAt TK σ) (pa_cons (pv 0) (pa_cons (pe_con_ T.c_MOST_BOXES rfl) pa_nil))))) (pw_or1 (pt_not (pt_u (K := K) (pe_callB (cr_uall (K := K) rfl) (by rfl) T.n_all (by decide +kernel) (pa_cons (pe_lc (own := [("one", 2)]) rfl nd (pi_u (K := K) (pv 0)) (blkOk_by (N := ["boxes", "lists", "one"]) (sc := defScope s_are_stores) (by decide +kernel)) (fun _ _ _ _ _ => (pg_name (i := 2) nd rfl (by first | exact Or.inl rfl | exact Or.inr rfl))) (fun _ _ _ _ _ => pts_nil) (fun _ _ _ _ _ => (pe_and (pe_own O_is_pair (by decide) hr rfl passN (pa_cons (pv 2) pa_nil)) (pe_one (pe_own O_is_number (by decide) hr rfl passN (pa_cons (pe_ix (ix_u (K := K) hu) (pv 2) pe_int (fun _ _ => rfl)) pa_nil)))))) pa_nil)))))))
      (pss_one (ps_ret pe_bl)) pss_nil)
      (pss_cons (ps_if (PW.pt (pw_or (pt_not (pt_u (K := K) (pe_own O_is_tuple (by decide) hr rfl (fun σ => L2N.passAt TK σ) (pa_cons (pv 1) (pa_cons (pe_con_ T.c_MOST_LISTS rfl) pa_nil))))) (pw_or1 (pt_not (pt_u (K := K) (pe_callB (cr_uall (K := K) rfl) (by rfl) T.n_all (by decide +kernel) (pa_cons (pe_lc (own := [("one", 2)]) rfl nd (pi_u (K := K) (pv 1)) (blkOk_by (N := ["boxes", "lists", "one"]) (sc := defScope s_are_stores) (by decide +kernel)) (fun _ _ _ _ _ => (pg_name (i := 2) nd rfl (by first | exact Or.inl rfl | exact Or.inr rfl))) (fun _ _ _ _ _ => pts_nil) (fun _ _ _ _ _ => (pe_and (pe_own O_is_pair (by decide) hr rfl passN (pa_cons (pv 2) pa_nil)) (pe_one (pe_own O_are_numbers (by decide) hr rfl passN (pa_cons (pe_ix (ix_u (K := K) hu) (pv 2) pe_int (fun _ _ => rfl)) (pa_cons (pe_con_ T.c_MOST_THINGS rfl) pa_nil))))))) pa_nil)))))))
      (pss_one (ps_ret pe_bl)) pss_nil)
      (pss_one (ps_ret (pe_own O_are_unlike (by decide) hr rfl (fun σ => L2N.passAt TK σ) (pa_cons (pe_lc (own := [("one", 2)]) rfl nd (pi_u (K := K) (pe_op (op_uadd (K := K)) (pv 0) (pv 1))) (blkOk_by (N := ["boxes", "lists", "one"]) (sc := defScope s_are_stores) (by decide +kernel)) (fun _ _ _ _ _ => (pg_name (i := 2) nd rfl (by first | exact Or.inl rfl | exact Or.inr rfl))) (fun _ _ _ _ _ => pts_nil) (fun _ _ _ _ _ => (pe_ix (ix_u (K := K) hu) (pv 2) pe_int (fun _ _ => rfl)))) pa_nil)))))), ?_⟩
    clear nd
    obtain ⟨v1, v2, t1, t2, F, rfl, ht1, ht2, q⟩ := h
    walk_at "vs"
    refine ⟨v1, t1, F, 6, rfl, ht1, fun H1 c1 => ?_⟩
    by_cases hp1 : ∃ bs, t1 = .tup bs ∧ bs.length ≤ 6
    rotate_left
    · have e0 : storesT t1 t2 = false := by
        cases t1 with
        | tup bs =>
          have hb : ¬ bs.length ≤ 6 := fun h => hp1 ⟨bs, rfl, h⟩
          cases t2 with
          | tup ls => rw [storesT, decide_eq_false hb]; rfl
          | _ => rfl
        | _ => rfl
      rw [show tupT 6 t1 = false from by
        cases t1 with
        | tup bs => exact decide_eq_false fun h => hp1 ⟨bs, rfl, by omega⟩
        | _ => rfl]
      walk_at "vs"
      have := q H1 c1
      rw [e0] at this
      exact this
    obtain ⟨bs, rfl, hb6⟩ := hp1
    show Tru K (.bl (decide ((bs.length : Int) ≤ 6))) _ _
    rw [decide_eq_true (by omega : (bs.length : Int) ≤ 6)]
    walk_at "vs"
    obtain ⟨a, xs, rfl, e, r⟩ := ht1.tupI
    have hl := r.length
    refine v_it_t (SqT.of (c1.tup e)) ?_
    refine v_lc_tup (xs := xs) [] (fun i acc H' => acc = ((bs.take i).map boxT).map V.bl) (by simp) (fun H' c => SqT.of (c.tup (c1.tup e))) (fun H' c => rfl) ?_ ?_
    · rintro D i x acc H5 hi nD dS c5 hDl rfl
      obtain ⟨d, hd, rx⟩ := r.get hi
      have rx5 := (rx.on0 c1).on0 c5
      have fin : ∀ H6, Chg [] H5 H6 → LcA D (LcI [] H1 D (fun i acc H' => acc = ((bs.take i).map boxT).map V.bl) (i + 1)) (.bl (boxT d)) H6 := fun H6 c6 => by
        refine v_lcA c5 hDl nD dS c6 (line9' (by simp only [List.length_map, List.length_take]; omega)) fun H7 c7 => ?_
        rw [← snoc_take hd, List.map_append, List.map_append]; rfl
      walk_at "vs"
      refine ⟨rfl, ?_⟩
      walk_at "vs"
      refine ⟨x, d, F, rfl, rx5, fun H6 c6 => ?_⟩
      by_cases hp : ∃ x y, d = .tup [x, y]
      · obtain ⟨t1, t2, rfl⟩ := hp
        obtain ⟨b, ys, rfl, eb, rb⟩ := rx5.tupI
        match ys, rb with
        | [y1, y2], .cons r1 (.cons r2 .nil) =>
          show IsB (.bl (nameT t1)) _
          have e1 : boxT (.tup [t1, t2]) = (nameT t1 && numT t2) := rfl
          rw [e1] at fin
          cases hn : nameT t1 with
          | false =>
            rw [hn] at fin
            walk_at "vs"
            exact fin H6 c6
          | true =>
            rw [hn] at fin
            walk_at "vs"
            refine v_ix_t (SqT.of (c6.tup eb)) (atI_1 _ _ _) ?_
            walk_at "vs"
            exact ⟨y2, t2, F, rfl, r2.on0 c6, fun H7 c7 => fin H7 (c6.trans c7)⟩
      · obtain ⟨e1, e2, _⟩ := two_no fun x y h => hp ⟨x, y, h⟩
        rw [e1]
        rw [e2] at fin
        walk_at "vs"
        exact fin H6 c6
    rintro D acc H5 c5 nD hDl rfl
    rw [hl, List.take_length] at hDl
    walk_at "vs"
    refine ⟨D, bs.map boxT, rfl, SqL.of hDl, ?_⟩
    rw [List.all_map]
    have k5 := c1.trans c5
    cases hba : bs.all boxT with
    | false =>
      have hba' : bs.all (id ∘ boxT) = false := hba
      rw [hba']
      walk_at "vs"
      have := q H5 k5
      rw [show storesT (.tup bs) t2 = false from by
        cases t2 with
        | tup ls => rw [storesT, hba, Bool.and_false, Bool.false_and]
        | _ => rfl] at this
      exact this
    | true =>
    have hba' : bs.all (id ∘ boxT) = true := hba
    rw [hba']
    walk_at "vs"
    refine ⟨v2, t2, F, 3, rfl, ht2.on0 k5, fun H6 c6 => ?_⟩
    have k6 := k5.trans c6
    by_cases hp1 : ∃ ls, t2 = .tup ls ∧ ls.length ≤ 3
    rotate_left
    · have e0 : storesT (.tup bs) t2 = false := by
        cases t2 with
        | tup ls =>
          have hb : ¬ ls.length ≤ 3 := fun h => hp1 ⟨ls, rfl, h⟩
          rw [storesT, decide_eq_false hb, Bool.false_and, Bool.false_and, Bool.and_false]
        | _ => rfl
      rw [show tupT 3 t2 = false from by
        cases t2 with
        | tup bs => exact decide_eq_false fun h => hp1 ⟨bs, rfl, by omega⟩
        | _ => rfl]
      walk_at "vs"
      have := q H6 k6
      rw [e0] at this
      exact this
    obtain ⟨ls, rfl, hl3⟩ := hp1
    show Tru K (.bl (decide ((ls.length : Int) ≤ 3))) _ _
    rw [decide_eq_true (by omega : (ls.length : Int) ≤ 3)]
    walk_at "vs"
    obtain ⟨a2, xs2, rfl, e2, r2⟩ := ht2.tupI
    have hl2 := r2.length
    refine v_it_t (SqT.of (k6.tup e2)) ?_
    refine v_lc_tup (xs := xs2) [] (fun i acc H' => acc = ((ls.take i).map listT).map V.bl) (by simp) (fun H' c => SqT.of (c.tup (k6.tup e2))) (fun H' c => rfl) ?_ ?_
    · rintro D i x acc H7 hi nD dS c7 hDl rfl
      obtain ⟨d, hd, rx⟩ := r2.get hi
      have rx5 := (rx.on0 k6).on0 c7
      have fin : ∀ H8, Chg [] H7 H8 → LcA D (LcI [] H6 D (fun i acc H' => acc = ((ls.take i).map listT).map V.bl) (i + 1)) (.bl (listT d)) H8 := fun H8 c8 => by
        refine v_lcA c7 hDl nD dS c8 (line9' (by simp only [List.length_map, List.length_take]; omega)) fun H9 c9 => ?_
        rw [← snoc_take hd, List.map_append, List.map_append]; rfl
      walk_at "vs"
      refine ⟨rfl, ?_⟩
      walk_at "vs"
      refine ⟨x, d, F, rfl, rx5, fun H8 c8 => ?_⟩
      by_cases hp : ∃ x y, d = .tup [x, y]
      · obtain ⟨t1, t2, rfl⟩ := hp
        obtain ⟨b, ys, rfl, eb, rb⟩ := rx5.tupI
        match ys, rb with
        | [y1, y2], .cons r1 (.cons r2 .nil) =>
          show IsB (.bl (nameT t1)) _
          have e1 : listT (.tup [t1, t2]) = (nameT t1 && numsT 12 t2) := rfl
          rw [e1] at fin
          cases hn : nameT t1 with
          | false =>
            rw [hn] at fin
            walk_at "vs"
            exact fin H8 c8
          | true =>
            rw [hn] at fin
            walk_at "vs"
            refine v_ix_t (SqT.of (c8.tup eb)) (atI_1 _ _ _) ?_
            walk_at "vs"
            exact ⟨y2, t2, F, 12, rfl, by omega, r2.on0 c8, fun H7 c7 => fin H7 (c8.trans c7)⟩
      · obtain ⟨e1, _, e2⟩ := two_no fun x y h => hp ⟨x, y, h⟩
        rw [e1]
        rw [e2] at fin
        walk_at "vs"
        exact fin H8 c8
    rintro D acc H7 c7 nD hDl rfl
    rw [hl2, List.take_length] at hDl
    walk_at "vs"
    refine ⟨D, ls.map listT, rfl, SqL.of hDl, ?_⟩
    rw [List.all_map]
    have k7 := k6.trans c7
    cases hla : ls.all listT with
    | false =>
      have hla' : ls.all (id ∘ listT) = false := hla
      rw [hla']
      walk_at "vs"
      have := q H7 k7
      rw [show storesT (.tup bs) (.tup ls) = false from by rw [storesT, hla, Bool.and_false, Bool.false_and, Bool.and_false]] at this
      exact this
    | true =>
    have hla' : ls.all (id ∘ listT) = true := hla
    rw [hla']
    walk_at "vs"
    refine v_add_tt (k7.tup e) (k7.tup e2) (line9 (by omega)) fun p3 H8 c8 h8 => ?_
    have k8 := k7.trans c8
    refine v_it_t (SqT.of h8) ?_
    have ff : Fst1 H8 (xs ++ xs2) (namesT (bs ++ ls)) := fst1_of ((r.on0 k8).app (r2.on0 k8)) fun t ht => by
      rcases List.mem_append.mp ht with h | h
      · exact .inl (boxT_pair (List.all_eq_true.mp hba t h))
      · exact .inl (listT_pair (List.all_eq_true.mp hla t h))
    have hnl : (namesT (bs ++ ls)).length = xs.length + xs2.length := by rw [namesT, List.length_map, List.length_append]; omega
    refine v_lc_tup (xs := xs ++ xs2) [] (fun i acc H' => acc = ((namesT (bs ++ ls)).take i).map V.str) (by simp) (fun H' c => SqT.of (c.tup h8)) (fun H' c => rfl) ?_ ?_
    · rintro D i x acc H9 hi nD dS c9 hDl rfl
      obtain ⟨b, z, ys, rfl, hz, eb⟩ := ff i x hi
      walk_at "vs"
      refine ⟨rfl, ?_⟩
      walk_at "vs"
      refine v_ix_t (SqT.of (c9.tup eb)) (atI_0 _ _) ?_
      refine v_lcA c9 hDl nD dS .refl (line9' (by rw [List.length_map, List.length_take]; omega)) fun H10 c10 => ?_
      rw [← snoc_take hz, List.map_append]; rfl
    rintro D acc H9 c9 nD hDl rfl
    rw [List.length_append, ← hnl, List.take_length] at hDl
    walk_at "vs"
    refine ⟨D, _, rfl, hDl, by omega, fun H10 c10 => ?_⟩
    have := q H10 ((k8.trans c9).trans c10)
    rw [show storesT (.tup bs) (.tup ls) = decide (namesT (bs ++ ls)).Nodup from by rw [storesT, decide_eq_true hb6, decide_eq_true hl3, hba, hla, Bool.true_and, Bool.true_and, Bool.true_and]] at this
    exact this
abbrev s_is_function : Stmt := topS 52
theorem sc_is_function : FnScope ["thing", "names"] ["thing", "names"] (defScope s_is_function) := ⟨rfl, rfl, rfl, by decide +kernel, rfl, by decide +kernel, by decide +kernel⟩
theorem ok_is_function (T : Txt K mg) (D : DefAt K mg "is_function" s_is_function) (O_is_name : Own P w K mg base "is_name" 1 ["thing"] (sp_isname)) (O_are_names : Own P w K mg base "are_names" 2 ["thing", "most"] (sp_arenames)) (O_are_unlike : Own P w K mg base "are_unlike" 1 ["names"] (sp_unlike)) : Own P w K mg base "is_function" 3 ["thing", "names"] (sp_isfn) := by
  refine own_of D (fun _ _ _ _ _ _ us hl => match us, hl with | [_, _], _ => rfl) (fnW_of (N := ["thing", "names"]) sc_is_function (fun vs H Q E h => ?_) (fun f cdv A outer s H vs Q E hr h => ?_))
  · obtain ⟨v, t, F, b, ns, rfl, _⟩ := h; rfl
  · have nd := sc_is_function.nd
    have hu := L2H.roomH_of hr
    have TK : L2N.Takes (cxOf (L2N.CX P w) P w K mg base ["thing", "names"] "is_function" (defScope s_is_function) f cdv A outer s H E) (fun cls d _ H => E cls d H) := L2N.takes_of rfl rfl rfl rfl
    refine ⟨_, (pss_cons (ps_if (PW.pt (pw_or (pt_not (pt_u (K := K) (pe_callB (call_uisi (K := K)) (by rfl) T.n_isinstance (by decide +kernel) (pa_cons (pv 0) (pa_cons (pe_bltn (v := .ty "tuple") (by rfl) T.n_tuple (by decide +kernel) rfl) pa_nil))))) (pw_or (pt_cmpR (op_une (K := K) hu) (pe_callB (call_ulen (K := K)) (by rfl) T.n_len (by decide +kernel) (pa_cons (pv 0) pa_nil)) pe_int (nomark _)) (pw_or1 (pt_not (pt_u (K := K) (pe_own O_is_name (by decide) hr rfl (fun σ => L2N.passAt TK σ) (pa_cons (pe_ix (ix_u (K := K) hu) (pv 0) pe_int (fun _ _ => rfl)) pa_nil))))))))
      (pss_one (ps_ret pe_bl)) pss_nil)
      (pss_cons (ps_if (PW.pt (pw_or (pt_not (pt_u (K := K) (pe_own O_are_names (by decide) hr rfl (fun σ => L2N.passAt TK σ) (pa_cons (pe_ix (ix_u (K := K) hu) (pv 0) pe_int (fun _ _ => rfl)) (pa_cons (pe_con_ T.c_MOST_NAMES rfl) pa_nil))))) (pw_or (pt_not (pt_u (K := K) (pe_own O_are_names (by decide) hr rfl (fun σ => L2N.passAt TK σ) (pa_cons (pe_ix (ix_u (K := K) hu) (pv 0) pe_int (fun _ _ => rfl)) (pa_cons (pe_con_ T.c_MOST_NAMES rfl) pa_nil))))) (pw_or1 (pt_not (pt_u (K := K) (pe_callB (call_uisi (K := K)) (by rfl) T.n_isinstance (by decide +kernel) (pa_cons (pe_ix (ix_u (K := K) hu) (pv 0) pe_int (fun _ _ => rfl)) (pa_cons (pe_bltn (v := .ty "tuple") (by rfl) T.n_tuple (by decide +kernel) rfl) pa_nil)))))))))
      (pss_one (ps_ret pe_bl)) pss_nil)
      (pss_one (ps_ret (pe_own O_are_unlike (by decide) hr rfl (fun σ => L2N.passAt TK σ) (pa_cons (pe_op (op_uadd (K := K)) (pv 1) (pe_callTy (call_ulist (K := K) rfl) (by rfl) T.n_list (by decide +kernel) (pa_cons (pe_op (op_uadd (K := K)) (pe_ix (ix_u (K := K) hu) (pv 0) pe_int (fun _ _ => rfl)) (pe_ix (ix_u (K := K) hu) (pv 0) pe_int (fun _ _ => rfl))) pa_nil))) pa_nil)))))), ?_⟩
    clear nd
    obtain ⟨v, t, F, b, ns, rfl, ht, hb, hnl, q⟩ := h
    walk_at "vs"
    refine v_isi_th ht (by simp [sixT]) ?_
    by_cases htp : ∃ ts, t = .tup ts
    rotate_left
    · rw [isa_no fun ys h => htp ⟨ys, h⟩]
      walk_at "vs"
      have := q H .refl
      rw [fnT_no fun ys h => htp ⟨ys, h⟩] at this
      exact this
    obtain ⟨ts, rfl⟩ := htp
    obtain ⟨a, xs, rfl, e, r⟩ := ht.tupI
    have hl := r.length
    show Tru K (.bl true) H _
    walk_at "vs"
    refine v_len_t (SqT.of e) ?_
    walk_at "vs"
    refine v_iteN (fun hn => ?_) (fun hn => ?_)
    · walk_at "vs"
      have := q H .refl
      rw [fnT_len (by omega)] at this
      exact this
    obtain ⟨t1, t2, t3, t4, rfl⟩ : ∃ t1 t2 t3 t4, ts = [t1, t2, t3, t4] := by
      rw [hl] at hn
      match ts, hn with
      | [], hn => simp at hn
      | [_], hn => simp at hn
      | [_, _], hn => simp at hn
      | [_, _, _], hn => simp at hn
      | [t1, t2, t3, t4], _ => exact ⟨_, _, _, _, rfl⟩
      | _ :: _ :: _ :: _ :: _ :: _, hn => simp at hn; omega
    obtain ⟨x1, x2, x3, x4, rfl, r1, r2, r3, r4⟩ := r.four
    replace q : ∀ H', Chg [] H H' → Q (.bl (nameT t1 && (namsT 3 t2 && (namsT 3 t3 && (t4.isa "tuple" && decide (ns ++ (strsT t2 ++ strsT t3)).Nodup))))) H' := q
    walk_at "vs"
    refine v_ix_t (SqT.of e) (atI_0 _ _) ?_
    walk_at "vs"
    refine ⟨x1, t1, F, rfl, r1, fun H1 c1 => ?_⟩
    walk_at "vs"
    cases h1 : nameT t1 with
    | false =>
      walk_at "vs"
      have := q H1 c1
      rw [h1, Bool.false_and] at this
      exact this
    | true =>
    rw [h1, Bool.true_and] at q
    walk_at "vs"
    refine v_ix_t (SqT.of (c1.tup e)) (atI_1 _ _ _) ?_
    walk_at "vs"
    refine ⟨x2, t2, F, 3, rfl, by omega, r2.on0 c1, fun H2 c2 => ?_⟩
    have k2 := c1.trans c2
    walk_at "vs"
    cases h2 : namsT 3 t2 with
    | false =>
      walk_at "vs"
      have := q H2 k2
      rw [h2, Bool.false_and] at this
      exact this
    | true =>
    rw [h2, Bool.true_and] at q
    walk_at "vs"
    refine v_ix_t (SqT.of (k2.tup e)) (atI_2 _ _ _ _) ?_
    walk_at "vs"
    refine ⟨x3, t3, F, 3, rfl, by omega, r3.on0 k2, fun H3 c3 => ?_⟩
    have k3 := k2.trans c3
    walk_at "vs"
    cases h3 : namsT 3 t3 with
    | false =>
      walk_at "vs"
      have := q H3 k3
      rw [h3, Bool.false_and] at this
      exact this
    | true =>
    rw [h3, Bool.true_and] at q
    walk_at "vs"
    refine v_ix_t (SqT.of (k3.tup e)) (atI_3 _ _ _ _ _) ?_
    walk_at "vs"
    refine v_isi_th (r4.on0 k3) (by simp [sixT]) ?_
    cases h4 : t4.isa "tuple" with
    | false =>
      walk_at "vs"
      have := q H3 k3
      rw [h4, Bool.false_and] at this
      exact this
    | true =>
    rw [h4, Bool.true_and] at q
    walk_at "vs"
    refine v_ix_t (SqT.of (k3.tup e)) (atI_1 _ _ _) ?_
    walk_at "vs"
    refine v_ix_t (SqT.of (k3.tup e)) (atI_2 _ _ _ _) ?_
    obtain ⟨ps, rfl, pl, pa⟩ := namsT_tup h2
    obtain ⟨os, rfl, ol, oa⟩ := namsT_tup h3
    obtain ⟨a2, y2, rfl, e2, s2⟩ := r2.tupI
    obtain ⟨a3, y3, rfl, e3, s3⟩ := r3.tupI
    have l2 := s2.length
    have l3 := s3.length
    have z2 := strs_at s2 pa
    have z3 := strs_at s3 oa
    refine v_add_tt (k3.tup e2) (k3.tup e3) (line9 (by omega)) fun p4 H4 c4 hp4 => ?_
    walk_at "vs"
    refine v_list_t (SqT.of hp4) fun p5 H5 n5 c5 hp5 => ?_
    walk_at "vs"
    have k5 := (k3.trans c4).trans c5
    rw [z2, z3, ← List.map_append] at hp5
    refine v_add_strs (k5.at hb) hp5 (by rw [List.length_append, List.length_map, List.length_map]; omega) fun p6 H6 n6 c6 hp6 => ?_
    walk_at "vs"
    refine ⟨p6, _, rfl, hp6, by rw [List.length_append, List.length_append, List.length_map, List.length_map]; omega, fun H7 c7 => ?_⟩
    exact q H7 ((k5.trans c6).trans c7)
abbrev s_are_functions : Stmt := topS 53
theorem sc_are_functions : FnScope ["thing", "names", "one"] ["thing", "names"] (defScope s_are_functions) := ⟨rfl, rfl, rfl, by decide +kernel, rfl, by decide +kernel, by decide +kernel⟩
theorem ok_are_functions (T : Txt K mg) (D : DefAt K mg "are_functions" s_are_functions) (O_is_tuple : Own P w K mg base "is_tuple" 1 ["thing", "most"] (sp_istup)) (O_is_function : Own P w K mg base "is_function" 3 ["thing", "names"] (sp_isfn)) (O_are_unlike : Own P w K mg base "are_unlike" 1 ["names"] (sp_unlike)) : Own P w K mg base "are_functions" 4 ["thing", "names"] (sp_arefns) := by
  refine own_of D (fun _ _ _ _ _ _ us hl => match us, hl with | [_, _], _ => rfl) (fnW_of (N := ["thing", "names", "one"]) sc_are_functions (fun vs H Q E h => ?_) (fun f cdv A outer s H vs Q E hr h => ?_))
  · obtain ⟨v, t, F, b, ns, rfl, _⟩ := h; rfl
  · have nd := sc_are_functions.nd
    have hu := L2H.roomH_of hr
    have TK : L2N.Takes (cxOf (L2N.CX P w) P w K mg base ["thing", "names", "one"] "are_functions" (defScope s_are_functions) f cdv A outer s H E) (fun cls d _ H => E cls d H) := L2N.takes_of rfl rfl rfl rfl
    refine ⟨_, (pss_cons (ps_if (PW.pt (pw_or (pt_not (pt_u (K := K) (pe_own O_is_tuple (by decide) hr rfl (fun σ => L2N.passAt TK σ) (pa_cons (pv 0) (pa_cons (pe_con_ T.c_MOST_FUNCTIONS rfl) pa_nil))))) (pw_or1 (pt_not (pt_u (K := K) (pe_callB (cr_uall (K := K) rfl) (by rfl) T.n_all (by decide +kernel) (pa_cons (pe_lc (own := [("one", 2)]) rfl nd (pi_u (K := K) (pv 0)) (blkOk_by (N := ["thing", "names", "one"]) (sc := defScope s_are_functions) (by decide +kernel)) (fun _ _ _ _ _ => (pg_name (i := 2) nd rfl (by first | exact Or.inl rfl | exact Or.inr rfl))) (fun _ _ _ _ _ => pts_nil) (fun _ _ _ _ _ => (pe_own O_is_function (by decide) hr rfl passN (pa_cons (pv 2) (pa_cons (pv 1) pa_nil))))) pa_nil)))))))
      (pss_one (ps_ret pe_bl)) pss_nil)
      (pss_one (ps_ret (pe_own O_are_unlike (by decide) hr rfl (fun σ => L2N.passAt TK σ) (pa_cons (pe_lc (own := [("one", 2)]) rfl nd (pi_u (K := K) (pv 0)) (blkOk_by (N := ["thing", "names", "one"]) (sc := defScope s_are_functions) (by decide +kernel)) (fun _ _ _ _ _ => (pg_name (i := 2) nd rfl (by first | exact Or.inl rfl | exact Or.inr rfl))) (fun _ _ _ _ _ => pts_nil) (fun _ _ _ _ _ => (pe_ix (ix_u (K := K) hu) (pv 2) pe_int (fun _ _ => rfl)))) pa_nil))))), ?_⟩
    clear nd
    obtain ⟨v, t, F, b, ns, rfl, ht, hb, hnl, q⟩ := h
    walk_at "vs"
    refine ⟨v, t, F, 4, rfl, ht, fun H1 c1 => ?_⟩
    by_cases hp1 : ∃ fs, t = .tup fs ∧ fs.length ≤ 4
    rotate_left
    · rw [show tupT 4 t = false from by
        cases t with
        | tup bs => exact decide_eq_false fun h => hp1 ⟨bs, rfl, by omega⟩
        | _ => rfl]
      walk_at "vs"
      have := q H1 c1
      rw [show fnsT ns t = false from by
        cases t with
        | tup fs => rw [fnsT, decide_eq_false (fun h => hp1 ⟨fs, rfl, h⟩)]; rfl
        | _ => rfl] at this
      exact this
    obtain ⟨fs, rfl, hf4⟩ := hp1
    show Tru K (.bl (decide ((fs.length : Int) ≤ 4))) _ _
    rw [decide_eq_true (by omega : (fs.length : Int) ≤ 4)]
    walk_at "vs"
    obtain ⟨a, xs, rfl, e, r⟩ := ht.tupI
    have hl := r.length
    replace q : ∀ H', Chg [] H H' → Q (.bl ((fs.all (fnT ns)) && decide (namesT fs).Nodup)) H' := fun H' c => by
      have := q H' c
      rw [show fnsT ns (.tup fs) = ((fs.all (fnT ns)) && decide (namesT fs).Nodup) from by rw [fnsT, decide_eq_true hf4, Bool.true_and]] at this
      exact this
    refine v_it_t (SqT.of (c1.tup e)) ?_
    refine v_lc_tup (xs := xs) [] (fun i acc H' => acc = ((fs.take i).map (fnT ns)).map V.bl) (by simp) (fun H' c => SqT.of (c.tup (c1.tup e))) (fun H' c => rfl) ?_ ?_
    · rintro D i x acc H5 hi nD dS c5 hDl rfl
      obtain ⟨d, hd, rx⟩ := r.get hi
      walk_at "vs"
      refine ⟨rfl, ?_⟩
      walk_at "vs"
      refine ⟨x, d, F, b, ns, rfl, (rx.on0 c1).on0 c5, (c1.trans c5).at hb, hnl, fun H6 c6 => ?_⟩
      refine v_lcA c5 hDl nD dS c6 (line9' (by simp only [List.length_map, List.length_take]; omega)) fun H7 c7 => ?_
      rw [← snoc_take hd, List.map_append, List.map_append]; rfl
    rintro D acc H5 c5 nD hDl rfl
    rw [hl, List.take_length] at hDl
    walk_at "vs"
    refine ⟨D, fs.map (fnT ns), rfl, SqL.of hDl, ?_⟩
    rw [List.all_map]
    have k5 := c1.trans c5
    cases hba : fs.all (fnT ns) with
    | false =>
      have hba' : fs.all (id ∘ fnT ns) = false := hba
      rw [hba']
      walk_at "vs"
      have := q H5 k5
      rw [hba, Bool.false_and] at this
      exact this
    | true =>
    have hba' : fs.all (id ∘ fnT ns) = true := hba
    rw [hba']
    rw [hba, Bool.true_and] at q
    walk_at "vs"
    refine v_it_t (SqT.of (k5.tup e)) ?_
    have ff : Fst1 H5 xs (namesT fs) := fst1_of (r.on0 k5) fun t ht => .inr ⟨ns, List.all_eq_true.mp hba t ht⟩
    have hn2 : (namesT fs).length = xs.length := by rw [namesT, List.length_map]; omega
    refine v_lc_tup (xs := xs) [] (fun i acc H' => acc = ((namesT fs).take i).map V.str) (by simp) (fun H' c => SqT.of (c.tup (k5.tup e))) (fun H' c => rfl) ?_ ?_
    · rintro D i x acc H9 hi nD dS c9 hDl rfl
      obtain ⟨b, z, ys, rfl, hz, eb⟩ := ff i x hi
      walk_at "vs"
      refine ⟨rfl, ?_⟩
      walk_at "vs"
      refine v_ix_t (SqT.of (c9.tup eb)) (atI_0 _ _) ?_
      refine v_lcA c9 hDl nD dS .refl (line9' (by rw [List.length_map, List.length_take]; omega)) fun H10 c10 => ?_
      rw [← snoc_take hz, List.map_append]; rfl
    rintro D acc H9 c9 nD hDl rfl
    rw [← hn2, List.take_length] at hDl
    walk_at "vs"
    refine ⟨D, _, rfl, hDl, by omega, fun H10 c10 => q H10 ((k5.trans c9).trans c10)⟩
abbrev s_need_rows : Stmt := topS 54
theorem sc_need_rows : FnScope ["rows", "scope", "row"] ["rows", "scope"] (defScope s_need_rows) := ⟨rfl, rfl, rfl, by decide +kernel, rfl, by decide +kernel, by decide +kernel⟩
theorem ok_need_rows (T : Txt K mg) (D : DefAt K mg "need_rows" s_need_rows) (O_is_row : Own P w K mg base "is_row" 24 ["thing", "scope", "deep"] (sp_isrow T.k_Scope.C 6)) : Own P w K mg base "need_rows" 25 ["rows", "scope"] (sp_needrows T.k_Scope.C T.x_NoRow.C) := by
  refine own_of D (fun _ _ _ _ _ _ us hl => match us, hl with | [_, _], _ => rfl) (fnW_of (N := ["rows", "scope", "row"]) sc_need_rows (fun vs H Q E h => ?_) (fun f cdv A outer s H vs Q E hr h => ?_))
  · obtain ⟨v, ts, F, sc, S, rfl, _⟩ := h; rfl
  · have nd := sc_need_rows.nd
    have hu := L2H.roomH_of hr
    have TK : L2N.Takes (cxOf (L2N.CX P w) P w K mg base ["rows", "scope", "row"] "need_rows" (defScope s_need_rows) f cdv A outer s H E) (fun cls d _ H => E cls d H) := L2N.takes_of rfl rfl rfl rfl
    refine ⟨_, (pss_one (ps_for (passes_of rfl) rfl (pi_u (K := K) (pv 0)) (pg_name (i := 2) nd rfl (by first | exact Or.inl rfl | exact Or.inr rfl))
      (pss_one (ps_if (pt_not (pt_u (K := K) (pe_own O_is_row (by decide) hr rfl (fun σ => L2N.passAt TK σ) (pa_cons (pv 2) (pa_cons (pv 1) (pa_cons pe_int pa_nil))))))
      (pss_one (ps_raiseU T.x_NoRow TK)) pss_nil)))), ?_⟩
    clear nd
    obtain ⟨v, ts, F, sc, S, rfl, ht, hS, q, qE⟩ := h
    obtain ⟨a, xs, rfl, e, r⟩ := ht.tupI
    have hl := r.length
    walk_at "vs"
    refine v_it_t (SqT.of e) ?_
    refine v_for_tup (xs := xs) (fun i σ H' => (∃ v2, σ = [some (.ref a), some (.ref sc), v2]) ∧ Chg [] H H' ∧ ∀ d ∈ ts.take i, rowT S 5 d = true)
      ⟨⟨_, rfl⟩, .refl, by simp⟩ (fun i σ H' _ ⟨_, c, _⟩ => SqT.of (c.tup e)) ?_ ?_
    · rintro i x σ H1 hi ⟨⟨v2, rfl⟩, c1, hp⟩
      obtain ⟨d, hd, rx⟩ := r.get hi
      walk_at "vs"
      refine ⟨x, d, F, sc, S, 5, rfl, by omega, rx.on0 c1, hS.on0 c1, fun H2 c2 => ?_⟩
      walk_at "vs"
      refine v_iteNB (fun hb => ?_) (fun hb => ?_)
      · walk_at "vs"
        refine qE ?_ H2 (c1.trans c2)
        cases ha : ts.all (rowT S 5) with
        | false => rfl
        | true => rw [List.all_eq_true.mp ha d (List.mem_of_getElem? hd)] at hb; cases hb
      · walk_at "vs"
        refine ⟨⟨_, rfl⟩, c1.trans c2, fun g hg => ?_⟩
        rw [take_snoc hd] at hg
        rcases List.mem_append.mp hg with h | h
        · exact hp g h
        · rw [List.mem_singleton] at h; subst h; exact hb
    · rintro σ H1 ⟨⟨v2, rfl⟩, c1, hp⟩
      rw [hl, List.take_length] at hp
      walk_at "vs"
      exact q (List.all_eq_true.mpr hp) H1 c1
abbrev s_rows_within : Stmt := topS 12
theorem sc_rows_within : FnScope ["row"] ["row"] (defScope s_rows_within) := ⟨rfl, rfl, rfl, by decide +kernel, rfl, by decide +kernel, by decide +kernel⟩
theorem ok_rows_within (T : Txt K mg) (D : DefAt K mg "rows_within" s_rows_within) : Own P w K mg base "rows_within" 1 ["row"] (sp_within) := by
  refine own_of D (fun _ _ _ _ _ _ us hl => match us, hl with | [_], _ => rfl) (fnW_of (N := ["row"]) sc_rows_within (fun vs H Q E h => ?_) (fun f cdv A outer s H vs Q E hr h => ?_))
  · obtain ⟨v, r, rfl, _⟩ := h; rfl
  · have nd := sc_rows_within.nd
    have hu := L2H.roomH_of hr
    refine ⟨_, (pss_cons (ps_if (pt_cmpR (op_ueq (K := K) hu) (pe_ix (ix_u (K := K) hu) (pv 0) pe_int (fun _ _ => rfl)) pe_str (nomark _))
      (pss_one (ps_ret (pe_lst (pa_cons (pe_ix (ix_u (K := K) hu) (pv 0) pe_int (fun _ _ => rfl)) (pa_cons (pe_ix (ix_u (K := K) hu) (pv 0) pe_int (fun _ _ => rfl)) pa_nil))))) pss_nil)
      (pss_cons (ps_if (pt_cmpR (op_ueq (K := K) hu) (pe_ix (ix_u (K := K) hu) (pv 0) pe_int (fun _ _ => rfl)) pe_str (nomark _))
      (pss_one (ps_ret (pe_lst (pa_cons (pe_ix (ix_u (K := K) hu) (pv 0) pe_int (fun _ _ => rfl)) pa_nil)))) pss_nil)
      (pss_cons (ps_if (pt_cmpR (op_ueq (K := K) hu) (pe_ix (ix_u (K := K) hu) (pv 0) pe_int (fun _ _ => rfl)) pe_str (nomark _))
      (pss_one (ps_ret (pe_lst (pa_cons (pe_ix (ix_u (K := K) hu) (pv 0) pe_int (fun _ _ => rfl)) (pa_cons (pe_ix (ix_u (K := K) hu) (pv 0) pe_int (fun _ _ => rfl)) pa_nil))))) pss_nil)
      (pss_one (ps_ret (pe_lst pa_nil)))))), ?_⟩
    clear nd
    obtain ⟨v, r, rfl, hr, q⟩ := h
    obtain ⟨w, ds, e, key⟩ := Rw.hd r
    have hr2 := hr
    rw [e] at hr
    obtain ⟨a, xs, rfl, ha, hx⟩ := hr.tupI
    obtain ⟨ys, rfl, hy, _⟩ := hx.strH
    walk_at "vs"
    refine v_ix_t (SqT.of ha) (atI_0 _ _) ?_
    walk_at "vs"
    refine v_iteD (fun h => ?_) (fun h1 => ?_)
    · have h := ofString_inj.mp h
      subst h
      rcases key with ⟨_, v, x, y, rfl⟩ | ⟨z, _⟩ | ⟨z, _⟩ | ⟨z, _⟩
      · rw [Rw.d] at hr2
        obtain ⟨a', xs', e1, e2, h2⟩ := hr2.tupI
        cases e1
        rw [ha] at e2; cases e2
        obtain ⟨zs, e3, h3, _⟩ := h2.strH
        cases e3
        obtain ⟨v1, y1, rfl, r1, h4⟩ := h3.consH
        obtain ⟨v2, y2, rfl, r2, h5⟩ := h4.consH
        obtain ⟨v3, y3, rfl, r3, h6⟩ := h5.consH
        cases h6.nilH
        walk_at "vs"
        refine v_ix_t (SqT.of ha) rfl ?_
        walk_at "vs"
        refine v_ix_t (SqT.of ha) rfl ?_
        walk_at "vs"
        refine v_newL (line9 (by show 2 ≤ 10000; decide)) fun p H1 np c1 hp => ?_
        exact q p _ H1 np c1 hp (.cons (r2.on c1) (.one (r3.on c1)))
      · exact absurd z (by decide)
      · exact absurd z (by decide)
      · exact absurd rfl z
    have n1 : w ≠ "if" := fun z => h1 (by rw [z])
    walk_at "vs"
    refine v_ix_t (SqT.of ha) (atI_0 _ _) ?_
    walk_at "vs"
    refine v_iteD (fun h => ?_) (fun h1 => ?_)
    · have h := ofString_inj.mp h
      subst h
      rcases key with ⟨z, _⟩ | ⟨_, v, x, rfl⟩ | ⟨z, _⟩ | ⟨_, z, _⟩
      · exact absurd z (by decide)
      · rw [Rw.d] at hr2
        obtain ⟨a', xs', e1, e2, h2⟩ := hr2.tupI
        cases e1
        rw [ha] at e2; cases e2
        obtain ⟨zs, e3, h3, _⟩ := h2.strH
        cases e3
        obtain ⟨v1, y1, rfl, r1, h4⟩ := h3.consH
        obtain ⟨v2, y2, rfl, r2, h5⟩ := h4.consH
        cases h5.nilH
        walk_at "vs"
        refine v_ix_t (SqT.of ha) rfl ?_
        walk_at "vs"
        refine v_newL (line9 (by show 1 ≤ 10000; decide)) fun p H1 np c1 hp => ?_
        exact q p _ H1 np c1 hp (.one (r2.on c1))
      · exact absurd z (by decide)
      · exact absurd rfl z
    have n2 : w ≠ "while" := fun z => h1 (by rw [z])
    walk_at "vs"
    refine v_ix_t (SqT.of ha) (atI_0 _ _) ?_
    walk_at "vs"
    refine v_iteD (fun h => ?_) (fun h1 => ?_)
    · have h := ofString_inj.mp h
      subst h
      rcases key with ⟨z, _⟩ | ⟨z, _⟩ | ⟨_, x, b, y, rfl⟩ | ⟨_, _, z, _⟩
      · exact absurd z (by decide)
      · exact absurd z (by decide)
      · rw [Rw.d] at hr2
        obtain ⟨a', xs', e1, e2, h2⟩ := hr2.tupI
        cases e1
        rw [ha] at e2; cases e2
        obtain ⟨zs, e3, h3, _⟩ := h2.strH
        cases e3
        obtain ⟨v1, y1, rfl, r1, h4⟩ := h3.consH
        obtain ⟨v2, y2, rfl, r2, h5⟩ := h4.consH
        obtain ⟨v3, y3, rfl, r3, h6⟩ := h5.consH
        cases h6.nilH
        walk_at "vs"
        refine v_ix_t (SqT.of ha) rfl ?_
        walk_at "vs"
        refine v_ix_t (SqT.of ha) rfl ?_
        walk_at "vs"
        refine v_newL (line9 (by show 2 ≤ 10000; decide)) fun p H1 np c1 hp => ?_
        exact q p _ H1 np c1 hp (.cons (r1.on c1) (.one (r3.on c1)))
      · exact absurd rfl z
    have n3 : w ≠ "try" := fun z => h1 (by rw [z])
    rcases key with ⟨z, _⟩ | ⟨z, _⟩ | ⟨z, _⟩ | ⟨_, _, _, hi⟩
    · exact absurd z n1
    · exact absurd z n2
    · exact absurd z n3
    walk_at "vs"
    refine v_newL (line9 (by show 0 ≤ 10000; decide)) fun p H1 np c1 hp => ?_
    exact q p _ H1 np c1 hp (by rw [hi]; exact .nil)
abbrev s_put_rows : Stmt := topS 13
theorem sc_put_rows : FnScope ["rows", "around", "found", "row", "number", "some"] ["rows", "around", "found"] (defScope s_put_rows) := ⟨rfl, rfl, rfl, by decide +kernel, rfl, by decide +kernel, by decide +kernel⟩
theorem st_put_rows (T : Txt K mg) (D : DefAt K mg "put_rows" s_put_rows) (O_rows_within : Own P w K mg base "rows_within" 1 ["row"] (sp_within)) (n : Nat) (O_put_rows : Own P w K mg base "put_rows" (2 + n) ["rows", "around", "found"] (sp_put n)) : Own P w K mg base "put_rows" (2 + n + 1) ["rows", "around", "found"] (sp_put (n + 1)) := by
  refine own_of D (fun _ _ _ _ _ _ us hl => match us, hl with | [_, _, _], _ => rfl) (fnW_of (k := 2 + n) (N := ["rows", "around", "found", "row", "number", "some"]) sc_put_rows (fun vs H Q E h => ?_) (fun f cdv A outer s H vs Q E hr h => ?_))
  · obtain ⟨v, ar, fo, rs, xs, ds, rfl, _⟩ := h; rfl
  · have nd := sc_put_rows.nd
    have hu := L2H.roomH_of hr
    have TK : L2N.Takes (cxOf (L2N.CX P w) P w K mg base ["rows", "around", "found", "row", "number", "some"] "put_rows" (defScope s_put_rows) f cdv A outer s H E) (fun cls d _ H => E cls d H) := L2N.takes_of rfl rfl rfl rfl
    refine ⟨_, (pss_one (ps_for (passes_of rfl) rfl (pi_u (K := K) (pv 0)) (pg_name (i := 3) nd rfl (by first | exact Or.inl rfl | exact Or.inr rfl))
      (pss_cons (ps_set (i := 4) nd rfl (by first | exact Or.inl rfl | exact Or.inr rfl) (pe_callB (call_ulen (K := K)) (by rfl) T.n_len (by decide +kernel) (pa_cons (pv 2) pa_nil)))
      (pss_cons (ps_expr (pe_bm PySem.F.plainAttrs_list PySem.F.slot_list_append PySem.F.type_list_append mt_append (pv 2) (pa_cons (pe_tup (pa_cons (pv 4) (pa_cons (pv 3) (pa_cons (pv 1) pa_nil)))) pa_nil)))
      (pss_one (ps_for (passes_of rfl) rfl (pi_u (K := K) (pe_own O_rows_within (by omega) hr rfl (fun σ => L2N.passAt TK σ) (pa_cons (pv 3) pa_nil))) (pg_name (i := 5) nd rfl (by first | exact Or.inl rfl | exact Or.inr rfl))
      (pss_one (ps_expr (pe_own O_put_rows (by omega) hr rfl (fun σ => L2N.passAt TK σ) (pa_cons (pv 5) (pa_cons (pv 4) (pa_cons (pv 2) pa_nil)))))))))))), ?_⟩
    clear nd
    obtain ⟨v, ar, fo, rs, xs, ds, rfl, hr, hdp, hfo, hx, hl, q⟩ := h
    obtain ⟨ra, vs, rfl, hra, hvs⟩ := hr.tupI
    rw [Rw.ds_eq] at hvs
    have hvl := hvs.length
    rw [List.length_map] at hvl
    walk_at "vs"
    refine v_it_t (SqT.of hra) ?_
    refine v_for_tup (xs := vs) (fun i σ H' => ∃ (v3 v4 v5 : Option V) (ys : List V), σ = [some (.ref ra), some (.int ar), some (.ref fo), v3, v4, v5] ∧ Chg [fo] H H' ∧ H' fo = some (.lst ys) ∧ RpA H' ys (ds ++ (numRs ds.length ar (rs.take i)).map tD))
      ⟨_, _, _, xs, rfl, .refl, hfo, by simpa [numRs] using hx⟩ (fun i σ H' _ ⟨_, _, _, _, _, c, _⟩ => SqT.of (c.tup hra)) ?_ ?_
    · rintro i x σ H1 hi ⟨v3, v4, v5, ys, rfl, c1, hf1, hR⟩
      obtain ⟨d, hd, rx⟩ := (hvs.on c1).get hi
      rw [List.getElem?_map] at hd
      obtain ⟨r, hri, rfl⟩ : ∃ r, rs[i]? = some r ∧ d = Rw.d r := by
        cases e : rs[i]? with
        | none => rw [e] at hd; cases hd
        | some z => rw [e] at hd; cases hd; exact ⟨z, rfl, rfl⟩
      have hir : i < rs.length := (List.getElem?_eq_some_iff.mp hri).1
      have htake : rs.take (i + 1) = rs.take i ++ [r] := by rw [List.take_add_one, hri]; rfl
      have hcnt : Rw.cnts (rs.take i) + r.cnt ≤ Rw.cnts rs := by
        have e := List.take_append_drop (i + 1) rs
        have := congrArg Rw.cnts e
        rw [Rw.cnts_app, htake, Rw.cnts_app] at this
        simp only [Rw.cnts] at this
        omega
      have hrm := Rw.dpts_mem (List.mem_of_getElem? hri)
      have hyl : ys.length = ds.length + Rw.cnts (rs.take i) := by
        have := hR.length
        rw [List.length_append, List.length_map, len_numRs] at this; exact this
      have hin := r.cnt_inl
      walk_at "vs"
      refine v_len_l (SqL.of hf1) ?_
      rw [hyl]
      generalize hN : ds.length + Rw.cnts (rs.take i) = N at *
      walk_at "vs"
      refine v_bml (SqL.of hf1) ?_
      walk_at "vs"
      refine v_newT (line9 (by show 3 ≤ 10000; decide)) fun t H2 nt c2 ht => ?_
      walk_at "vs"
      refine v_append (c2.at hf1) (line9' (by omega)) fun H3 c3 hf3 => ?_
      have r3 : Rp H3 (.ref t) (tD ((N : Int), .inr r, ar)) := .tup (c3.tup ht) (.cons (.int _) (.cons ((rx.on c2).on c3) (.one (.int _))))
      have hR3 : RpA H3 (ys ++ [.ref t]) (ds ++ (numRs ds.length ar (rs.take i)).map tD ++ [tD ((N : Int), .inr r, ar)]) := ((hR.on c2).on c3).snoc r3
      walk_at "vs"
      refine ⟨x, r, rfl, (rx.on c2).on c3, fun p zs H4 np c4 hp hz => ?_⟩
      have hf4 := c4.at hf3
      have npf : p ≠ fo := by rintro rfl; rw [np] at hf3; cases hf3
      have hzl := hz.length
      rw [List.length_map] at hzl
      refine v_it_l (SqL.of hp) ?_
      refine v_for_list (xs := zs) (fun j σ H' => ∃ (v5 : Option V) (ws : List V), σ = [some (.ref ra), some (.int ar), some (.ref fo), some x, some (.int (N : Int)), v5] ∧ Chg [fo] H4 H' ∧ H' fo = some (.lst ws) ∧ RpA H' ws (ds ++ (numRs ds.length ar (rs.take i)).map tD ++ [tD ((N : Int), .inr r, ar)] ++ (numRs (N + 1) N (r.ins.take j).flatten).map tD))
        ⟨_, _, rfl, .refl, hf4, by simpa [numRs] using hR3.on c4⟩ (fun i σ H' _ ⟨_, _, _, c, _⟩ => SqL.of (c.keep hp (by simpa using npf))) ?_ ?_
      · rintro j y σ H5 hj ⟨v5, ws, rfl, c5, hf5, hR5⟩
        obtain ⟨d, hd, ry⟩ := (hz.on c5).get hj
        rw [List.getElem?_map] at hd
        obtain ⟨s, hsj, rfl⟩ : ∃ s, r.ins[j]? = some s ∧ d = .tup (Rw.ds s) := by
          cases e : r.ins[j]? with
          | none => rw [e] at hd; cases hd
          | some z => rw [e] at hd; cases hd; exact ⟨z, rfl, rfl⟩
        have hsd := Rw.ins_dpts (List.mem_of_getElem? hsj)
        have htj : r.ins.take (j + 1) = r.ins.take j ++ [s] := by rw [List.take_add_one, hsj]; rfl
        have hcj : Rw.cnts (r.ins.take j).flatten + Rw.cnts s ≤ Rw.cnts r.inl := by
          have e := List.take_append_drop (j + 1) r.ins
          have := congrArg (fun l => Rw.cnts (List.flatten l)) e
          simp only [List.flatten_append, Rw.cnts_app, htj] at this
          simp only [List.flatten_cons, List.flatten_nil, List.append_nil] at this
          unfold Rw.inl
          omega
        have hlen : (ds ++ (numRs ds.length ar (rs.take i)).map tD ++ [tD ((N : Int), .inr r, ar)] ++ (numRs (N + 1) N (r.ins.take j).flatten).map tD).length = N + 1 + Rw.cnts (r.ins.take j).flatten := by
          simp only [List.length_append, List.length_map, len_numRs, List.length_cons, List.length_nil]
          omega
        walk_at "vs"
        refine ⟨y, N, fo, s, ws, _, rfl, ry, by omega, hf5, hR5, by rw [hlen]; omega, fun us H6 c6 hf6 hR6 => ?_⟩
        refine ⟨_, us, rfl, c5.trans c6, hf6, ?_⟩
        rw [hlen] at hR6
        rw [htj, List.flatten_append, numRs_app, List.map_append]
        simp only [List.flatten_cons, List.flatten_nil, List.append_nil]
        rw [← List.append_assoc]
        exact hR6
      · rintro σ H5 ⟨v5, ws, rfl, c5, hf5, hR5⟩
        refine ⟨_, _, _, ws, rfl, c1.trans (((c2.of0.trans c3).trans c4.of0).trans c5), hf5, ?_⟩
        rw [htake, numRs_app, hN, numRs_cons, numR_eq, List.map_append]
        rw [hzl, List.take_length] at hR5
        simpa [numRs, Rw.inl, List.append_assoc] using hR5
    · rintro σ H1 ⟨v3, v4, v5, ys, rfl, c1, hf1, hR⟩
      walk_at "vs"
      refine q ys H1 c1 hf1 ?_
      rw [hvl, List.take_length] at hR
      exact hR
theorem ok_put_rows (T : Txt K mg) (D : DefAt K mg "put_rows" s_put_rows) (O_rows_within : Own P w K mg base "rows_within" 1 ["row"] (sp_within)) : ∀ n : Nat, Own P w K mg base "put_rows" (2 + n) ["rows", "around", "found"] (sp_put n)
  | 0 => own_of (k := 2) D (fun _ _ _ _ _ _ us hl => match us, hl with | [_, _, _], _ => rfl) (fnW_of (N := ["rows", "around", "found", "row", "number", "some"]) sc_put_rows (fun vs H Q E h => ((show ∀ vs H Q E, ¬ (sp_put 0 : Sp) vs H Q E from fun vs H Q E => by rintro ⟨v, ar, fo, rs, xs, ds, rfl, _, h, _⟩; omega) vs H Q E h).elim) (fun f cdv A outer s H vs Q E hr h => ((show ∀ vs H Q E, ¬ (sp_put 0 : Sp) vs H Q E from fun vs H Q E => by rintro ⟨v, ar, fo, rs, xs, ds, rfl, _, h, _⟩; omega) vs H Q E h).elim))
  | n + 1 => st_put_rows T D O_rows_within n (ok_put_rows T D O_rows_within n)
abbrev s_rows_of : Stmt := topS 14
theorem sc_rows_of : FnScope ["program", "found", "function", "number"] ["program"] (defScope s_rows_of) := ⟨rfl, rfl, rfl, by decide +kernel, rfl, by decide +kernel, by decide +kernel⟩
theorem ok_rows_of (T : Txt K mg) (D : DefAt K mg "rows_of" s_rows_of) (O_put_rows : Own P w K mg base "put_rows" 9 ["rows", "around", "found"] (sp_put 7)) : Own P w K mg base "rows_of" 10 ["program"] (sp_rowsof) := by
  refine own_of D (fun _ _ _ _ _ _ us hl => match us, hl with | [_], _ => rfl) (fnW_of (N := ["program", "found", "function", "number"]) sc_rows_of (fun vs H Q E h => ?_) (fun f cdv A outer s H vs Q E hr h => ?_))
  · obtain ⟨v, p, rfl, _⟩ := h; rfl
  · have nd := sc_rows_of.nd
    have hu := L2H.roomH_of hr
    have TK : L2N.Takes (cxOf (L2N.CX P w) P w K mg base ["program", "found", "function", "number"] "rows_of" (defScope s_rows_of) f cdv A outer s H E) (fun cls d _ H => E cls d H) := L2N.takes_of rfl rfl rfl rfl
    refine ⟨_, (pss_cons (ps_set (i := 1) nd rfl (by first | exact Or.inl rfl | exact Or.inr rfl) (pe_lst pa_nil))
      (pss_cons (ps_for (passes_of rfl) rfl (pi_u (K := K) (pe_ix (ix_u (K := K) hu) (pv 0) pe_int (fun _ _ => rfl))) (pg_name (i := 2) nd rfl (by first | exact Or.inl rfl | exact Or.inr rfl))
      (pss_cons (ps_set (i := 3) nd rfl (by first | exact Or.inl rfl | exact Or.inr rfl) (pe_callB (call_ulen (K := K)) (by rfl) T.n_len (by decide +kernel) (pa_cons (pv 1) pa_nil)))
      (pss_cons (ps_expr (pe_bm PySem.F.plainAttrs_list PySem.F.slot_list_append PySem.F.type_list_append mt_append (pv 1) (pa_cons (pe_tup (pa_cons (pv 3) (pa_cons (pe_tup (pa_cons pe_str (pa_cons (pe_ix (ix_u (K := K) hu) (pv 2) pe_int (fun _ _ => rfl)) pa_nil))) (pa_cons (pe_un un_neg pe_int) pa_nil)))) pa_nil)))
      (pss_one (ps_expr (pe_own O_put_rows (by decide) hr rfl (fun σ => L2N.passAt TK σ) (pa_cons (pe_ix (ix_u (K := K) hu) (pv 2) pe_int (fun _ _ => rfl)) (pa_cons (pv 3) (pa_cons (pv 1) pa_nil)))))))))
      (pss_cons (ps_expr (pe_own O_put_rows (by decide) hr rfl (fun σ => L2N.passAt TK σ) (pa_cons (pe_ix (ix_u (K := K) hu) (pv 0) pe_int (fun _ _ => rfl)) (pa_cons (pe_un un_neg pe_int) (pa_cons (pv 1) pa_nil)))))
      (pss_one (ps_ret (pv 1)))))), ?_⟩
    clear nd
    obtain ⟨v, p, rfl, hr, hp, q⟩ := h
    obtain ⟨a, v1, v2, v3, v4, rfl, ha, r1, r2, r3, r4⟩ := Pg.parts hr
    obtain ⟨b, fx, rfl, hb, hf⟩ := r3.tupI
    have hfl := hf.length
    rw [List.length_map] at hfl
    have hcn := hp.cn
    walk_at "vs"
    refine v_newL (line9 (by show 0 ≤ 10000; decide)) fun fo H1 nfo c1 hfo => ?_
    walk_at "vs"
    refine v_ix_t (SqT.of (c1.tup ha)) rfl ?_
    walk_at "vs"
    refine v_it_t (SqT.of (c1.tup hb)) ?_
    refine v_for_tup (xs := fx) (fun i σ H' => ∃ (v2 v3 : Option V) (ys : List V), σ = [some (.ref a), some (.ref fo), v2, v3] ∧ Chg [fo] H1 H' ∧ H' fo = some (.lst ys) ∧ RpA H' ys ((fnTr 0 (p.fs.take i)).map tD))
      ⟨_, _, [], rfl, .refl, hfo, .nil⟩ (fun i σ H' _ ⟨_, _, _, _, c, _⟩ => SqT.of (c.tup (c1.tup hb))) ?_ ?_
    · rintro i x σ H2 hi ⟨v2', v3', ys, rfl, c2, hf2, hR⟩
      obtain ⟨d, hd, rx⟩ := ((hf.on c1).on c2).get hi
      obtain ⟨f, hfi, rfl⟩ := map_get hd
      obtain ⟨fa, w2, w3, w4, rfl, hfa, okf, _, _, rr⟩ := RT.fn_parts rx
      have htake := take_snoc hfi
      have hcnt : fcnt (p.fs.take i) + Rw.cnts f.2.2.2 + 1 ≤ fcnt p.fs := by
        have e := List.take_append_drop (i + 1) p.fs
        have := congrArg fcnt e
        rw [fcnt_app, htake, fcnt_app] at this
        have e2 : fcnt [f] = Rw.cnts f.2.2.2 + 1 := by simp [fcnt]
        omega
      have hyl : ys.length = fcnt (p.fs.take i) := by
        have := hR.length
        rw [List.length_map, len_fnTr] at this; exact this
      have hdp := hp.d1 f (List.mem_of_getElem? hfi)
      walk_at "vs"
      refine v_len_l (SqL.of hf2) ?_
      walk_at "vs"
      refine v_bml (SqL.of hf2) ?_
      walk_at "vs"
      refine v_ix_t (SqT.of hfa) rfl ?_
      walk_at "vs"
      refine v_newT (line9 (by show 2 ≤ 10000; decide)) fun t1 H3 nt1 c3 ht1 => ?_
      walk_at "vs"
      refine v_newT (line9 (by show 3 ≤ 10000; decide)) fun t H4 nt c4 ht => ?_
      walk_at "vs"
      have c24 := c3.trans c4
      refine v_append (c24.at hf2) (line9' (by omega)) fun H5 c5 hf5 => ?_
      have r5 : Rp H5 (.ref t) (tD ((ys.length : Int), .inl f.1, -1)) := .tup (c5.tup ht) (.cons (.int _) (.cons (.tup (c5.tup (c4.tup ht1)) (.cons (.str (wOk (by simp))) (.one (.str okf)))) (.one (.int _))))
      have hR5 := ((hR.on c24).on c5).snoc r5
      walk_at "vs"
      refine v_ix_t (SqT.of (c5.tup (c24.tup hfa))) rfl ?_
      walk_at "vs"
      refine ⟨w4, ys.length, fo, f.2.2.2, _, _, rfl, (rr.on c24).on c5, by omega, hf5, hR5, by
        rw [List.length_append, List.length_map, len_fnTr, List.length_singleton]; omega, fun us H6 c6 hf6 hR6 => ?_⟩
      walk_at "vs"
      refine ⟨_, _, us, rfl, c2.trans (c24.of0.trans (c5.trans c6)), hf6, ?_⟩
      rw [List.length_append, List.length_map, len_fnTr, List.length_singleton, hyl] at hR6
      rw [htake, fnTr_app, Nat.zero_add]
      simpa [fnTr, List.append_assoc] using hR6
    · rintro σ H2 ⟨v2', v3', ys, rfl, c2, hf2, hR⟩
      rw [hfl, List.take_length] at hR
      have hyl : ys.length = fcnt p.fs := by
        have := hR.length
        rw [List.length_map, len_fnTr] at this; exact this
      walk_at "vs"
      refine v_ix_t (SqT.of (c2.tup (c1.tup ha))) rfl ?_
      walk_at "vs"
      refine ⟨v4, -1, fo, p.rows, ys, _, rfl, (r4.on c1).on c2, by have := hp.d2; omega, hf2, hR, by rw [List.length_map, len_fnTr]; omega, fun us H3 c3 hf3 hR3 => ?_⟩
      walk_at "vs"
      refine q fo us H3 nfo (c1.trans' (c2.trans c3) fun l hm => ?_) hf3 ?_
      · rw [List.mem_singleton] at hm; subst hm; exact .inr nfo
      · rw [List.length_map, len_fnTr] at hR3
        unfold trs
        rw [List.map_append]
        exact hR3
abbrev s_program_of : Stmt := topS 55
theorem sc_program_of : FnScope ["boxes", "lists", "functions", "rows", "one", "boxed", "box", "listed", "takes", "function", "program"] ["boxes", "lists", "functions", "rows"] (defScope s_program_of) := ⟨rfl, rfl, rfl, by decide +kernel, rfl, by decide +kernel, by decide +kernel⟩
theorem ok_program_of (T : Txt K mg) (D : DefAt K mg "program_of" s_program_of) (O_are_stores : Own P w K mg base "are_stores" 3 ["boxes", "lists"] (sp_stores)) (O_are_functions : Own P w K mg base "are_functions" 4 ["thing", "names"] (sp_arefns)) (O_need_rows : Own P w K mg base "need_rows" 25 ["rows", "scope"] (sp_needrows T.k_Scope.C T.x_NoRow.C)) (O_Scope___init__ : OwnM P w K mg base T.k_Scope.C "__init__" 1 ["self", "boxes", "lists", "functions", "inside"] (sp_scope T.k_Scope.C)) (O_rows_of : Own P w K mg base "rows_of" 10 ["program"] (sp_rowsof)) : Own P w K mg base "program_of" 26 ["boxes", "lists", "functions", "rows"] (sp_progof T.x_NoProgram.C T.x_NoRow.C T.x_TooLong.C) := by
  refine own_of D (fun _ _ _ _ _ _ us hl => match us, hl with | [_, _, _, _], _ => rfl) (fnW_of (N := ["boxes", "lists", "functions", "rows", "one", "boxed", "box", "listed", "takes", "function", "program"]) sc_program_of (fun vs H Q E h => ?_) (fun f cdv A outer s H vs Q E hr h => ?_))
  · obtain ⟨v1, v2, v3, v4, t1, t2, t3, t4, F, rfl, _⟩ := h; rfl
  · have nd := sc_program_of.nd
    have hu := L2H.roomH_of hr
    have TK : L2N.Takes (cxOf (L2N.CX P w) P w K mg base ["boxes", "lists", "functions", "rows", "one", "boxed", "box", "listed", "takes", "function", "program"] "program_of" (defScope s_program_of) f cdv A outer s H E) (fun cls d _ H => E cls d H) := L2N.takes_of rfl rfl rfl rfl
    refine ⟨_, (pss_cons (ps_if (PW.pt (pw_or (pt_not (pt_u (K := K) (pe_own O_are_stores (by decide) hr rfl (fun σ => L2N.passAt TK σ) (pa_cons (pv 0) (pa_cons (pv 1) pa_nil))))) (pw_or1 (pt_not (pt_u (K := K) (pe_callB (call_uisi (K := K)) (by rfl) T.n_isinstance (by decide +kernel) (pa_cons (pv 3) (pa_cons (pe_bltn (v := .ty "tuple") (by rfl) T.n_tuple (by decide +kernel) rfl) pa_nil))))))))
      (pss_one (ps_raiseU T.x_NoProgram TK)) pss_nil)
      (pss_cons (ps_if (pt_not (pt_u (K := K) (pe_own O_are_functions (by decide) hr rfl (fun σ => L2N.passAt TK σ) (pa_cons (pv 2) (pa_cons (pe_lc (own := [("one", 4)]) rfl nd (pi_u (K := K) (pe_op (op_uadd (K := K)) (pv 0) (pv 1))) (blkOk_by (N := ["boxes", "lists", "functions", "rows", "one", "boxed", "box", "listed", "takes", "function", "program"]) (sc := defScope s_program_of) (by decide +kernel)) (fun _ _ _ _ _ => (pg_name (i := 4) nd rfl (by first | exact Or.inl rfl | exact Or.inr rfl))) (fun _ _ _ _ _ => pts_nil) (fun _ _ _ _ _ => (pe_ix (ix_u (K := K) hu) (pv 4) pe_int (fun _ _ => rfl)))) pa_nil)))))
      (pss_one (ps_raiseU T.x_NoProgram TK)) pss_nil)
      (pss_cons (ps_setLc (i := 5) (own := [("box", 6)]) rfl nd rfl rfl (sw_true rfl rfl rfl (by decide +kernel)) (pi_u (K := K) (pv 0)) (blkOk_by (N := ["boxes", "lists", "functions", "rows", "one", "boxed", "box", "listed", "takes", "function", "program"]) (sc := defScope s_program_of) (by decide +kernel)) (fun _ _ _ _ _ => (pg_name (i := 6) nd rfl (by first | exact Or.inl rfl | exact Or.inr rfl))) (fun _ _ _ _ _ => pts_nil) (fun _ _ _ _ _ => (pe_ix (ix_u (K := K) hu) (pv 6) pe_int (fun _ _ => rfl))))
      (pss_cons (ps_setLc (i := 7) (own := [("one", 4)]) rfl nd rfl rfl (sw_true rfl rfl rfl (by decide +kernel)) (pi_u (K := K) (pv 1)) (blkOk_by (N := ["boxes", "lists", "functions", "rows", "one", "boxed", "box", "listed", "takes", "function", "program"]) (sc := defScope s_program_of) (by decide +kernel)) (fun _ _ _ _ _ => (pg_name (i := 4) nd rfl (by first | exact Or.inl rfl | exact Or.inr rfl))) (fun _ _ _ _ _ => pts_nil) (fun _ _ _ _ _ => (pe_ix (ix_u (K := K) hu) (pv 4) pe_int (fun _ _ => rfl))))
      (pss_cons (ps_set (i := 8) nd rfl (by first | exact Or.inl rfl | exact Or.inr rfl) (pe_callTy (call_udictL (K := K) rfl) (by rfl) T.n_dict (by decide +kernel) (pa_cons (pe_lc (own := [("one", 4)]) rfl nd (pi_u (K := K) (pv 2)) (blkOk_by (N := ["boxes", "lists", "functions", "rows", "one", "boxed", "box", "listed", "takes", "function", "program"]) (sc := defScope s_program_of) (by decide +kernel)) (fun _ _ _ _ _ => (pg_name (i := 4) nd rfl (by first | exact Or.inl rfl | exact Or.inr rfl))) (fun _ _ _ _ _ => pts_nil) (fun _ _ _ _ _ => (pe_tup (pa_cons (pe_ix (ix_u (K := K) hu) (pv 4) pe_int (fun _ _ => rfl)) (pa_cons (pe_callB (call_ulen (K := K)) (by rfl) T.n_len (by decide +kernel) (pa_cons (pe_ix (ix_u (K := K) hu) (pv 4) pe_int (fun _ _ => rfl)) pa_nil)) pa_nil))))) pa_nil)))
      (pss_cons (ps_for (passes_of rfl) rfl (pi_u (K := K) (pv 2)) (pg_name (i := 9) nd rfl (by first | exact Or.inl rfl | exact Or.inr rfl))
      (pss_one (ps_expr (pe_own O_need_rows (by decide) hr rfl (fun σ => L2N.passAt TK σ) (pa_cons (pe_ix (ix_u (K := K) hu) (pv 9) pe_int (fun _ _ => rfl)) (pa_cons (pe_mak T.k_Scope O_Scope___init__ (by decide) hr rfl (fun σ => L2N.passAt TK σ) (pa_cons (pe_op (op_uadd (K := K)) (pv 5) (pe_callTy (call_ulist (K := K) rfl) (by rfl) T.n_list (by decide +kernel) (pa_cons (pe_op (op_uadd (K := K)) (pe_ix (ix_u (K := K) hu) (pv 9) pe_int (fun _ _ => rfl)) (pe_ix (ix_u (K := K) hu) (pv 9) pe_int (fun _ _ => rfl))) pa_nil))) (pa_cons (pv 7) (pa_cons (pv 8) (pa_cons pe_bl pa_nil))))) pa_nil))))))
      (pss_cons (ps_expr (pe_own O_need_rows (by decide) hr rfl (fun σ => L2N.passAt TK σ) (pa_cons (pv 3) (pa_cons (pe_mak T.k_Scope O_Scope___init__ (by decide) hr rfl (fun σ => L2N.passAt TK σ) (pa_cons (pv 5) (pa_cons (pv 7) (pa_cons (pv 8) (pa_cons pe_bl pa_nil))))) pa_nil))))
      (pss_cons (ps_set (i := 10) nd rfl (by first | exact Or.inl rfl | exact Or.inr rfl) (pe_tup (pa_cons (pv 0) (pa_cons (pv 1) (pa_cons (pv 2) (pa_cons (pv 3) pa_nil))))))
      (pss_cons (ps_if (pt_cmpR op_gt (pe_callB (call_ulen (K := K)) (by rfl) T.n_len (by decide +kernel) (pa_cons (pe_own O_rows_of (by decide) hr rfl (fun σ => L2N.passAt TK σ) (pa_cons (pv 10) pa_nil)) pa_nil)) (pe_con_ T.c_MOST_ROWS rfl) (nomark _))
      (pss_one (ps_raiseU T.x_TooLong TK)) pss_nil)
      (pss_one (ps_ret (pv 10)))))))))))), ?_⟩
    clear nd
    obtain ⟨v1, v2, v3, v4, t1, t2, t3, t4, F, rfl, ht1, ht2, ht3, ht4, qP, q⟩ := h
    walk_at "vs"
    refine ⟨v1, v2, t1, t2, F, rfl, ht1, ht2, fun H1 c1 => ?_⟩
    walk_at "vs"
    cases hst : storesT t1 t2 with
    | false =>
      walk_at "vs"
      exact qP (fun h => by rw [h.1] at hst; cases hst) H1 c1
    | true =>
    walk_at "vs"
    refine v_isi_th (ht4.on0 c1) (by simp [sixT]) ?_
    cases hr4 : t4.isa "tuple" with
    | false =>
      walk_at "vs"
      exact qP (fun h => by rw [h.2.1] at hr4; cases hr4) H1 c1
    | true =>
    obtain ⟨bs, ls, rfl, rfl, hb6, hl3, hba, hla⟩ := stores_tup hst
    obtain ⟨rs, rfl⟩ := isa_tup hr4
    obtain ⟨a1, x1, rfl, e1, r1⟩ := ht1.tupI
    obtain ⟨a2, x2, rfl, e2, r2⟩ := ht2.tupI
    have l1 := r1.length
    have l2 := r2.length
    walk_at "vs"
    refine v_add_tt (c1.tup e1) (c1.tup e2) (line9 (by omega)) fun p2 H2 c2 h2 => ?_
    have k2 := c1.trans c2
    refine v_it_t (SqT.of h2) ?_
    have fb : Fst1 H x1 (namesT bs) := fst1_of r1 fun t h => .inl (boxT_pair (List.all_eq_true.mp hba t h))
    have fl : Fst1 H x2 (namesT ls) := fst1_of r2 fun t h => .inl (listT_pair (List.all_eq_true.mp hla t h))
    have ff : Fst1 H (x1 ++ x2) (namesT (bs ++ ls)) := fst1_of (r1.app r2) fun t ht => by
      rcases List.mem_append.mp ht with h | h
      · exact .inl (boxT_pair (List.all_eq_true.mp hba t h))
      · exact .inl (listT_pair (List.all_eq_true.mp hla t h))
    have nn : (namesT (bs ++ ls)).length = x1.length + x2.length := by rw [namesT, List.length_map, List.length_append]; omega
    have nb : (namesT bs).length = x1.length := by rw [namesT, List.length_map]; omega
    have nl : (namesT ls).length = x2.length := by rw [namesT, List.length_map]; omega
    refine v_lc_tup (xs := x1 ++ x2) [] (fun i acc H' => acc = ((namesT (bs ++ ls)).take i).map V.str) (by simp) (fun H' c => SqT.of (c.tup h2)) (fun H' c => rfl) ?_ ?_
    · rintro D i x acc H9 hi nD dS c9 hDl rfl
      obtain ⟨b, z, ys, rfl, hz, eb⟩ := ff i x hi
      walk_at "vs"
      refine ⟨rfl, ?_⟩
      walk_at "vs"
      refine v_ix_t (SqT.of ((k2.trans c9).tup eb)) (atI_0 _ _) ?_
      refine v_lcA c9 hDl nD dS .refl (line9' (by rw [List.length_map, List.length_take]; omega)) fun H10 c10 => ?_
      rw [← snoc_take hz, List.map_append]; rfl
    rintro D3 acc H3 c3 nD3 hD3 rfl
    rw [List.length_append, ← nn, List.take_length] at hD3
    have k3 := k2.trans c3
    walk_at "vs"
    refine ⟨v3, t3, F, D3, _, rfl, ht3.on0 k3, hD3, by omega, fun H4 c4 => ?_⟩
    have k4 := k3.trans c4
    walk_at "vs"
    cases hfn : fnsT (namesT (bs ++ ls)) t3 with
    | false =>
      walk_at "vs"
      exact qP (fun h => by
        have e : fnsT (namesT (bs ++ ls)) t3 = true := h.2.2
        rw [e] at hfn; cases hfn) H4 k4
    | true =>
    obtain ⟨qR, qG⟩ := q ⟨hst, hr4, hfn⟩
    obtain ⟨fs, rfl, hf4, hfa, hfd⟩ := fns_tup hfn
    have hst' := hst
    clear qP q
    replace qR : fineT bs ls fs rs = false → ∀ H', Chg [] H H' → E (.ref T.x_NoRow.C) none H' := qR
    replace qG : fineT bs ls fs rs = true → cntP fs rs ≤ 62 ∧ (60 < cntP fs rs → ∀ H', Chg [] H H' → E (.ref T.x_TooLong.C) none H') ∧ (cntP fs rs ≤ 60 → ∀ p H', Chg [] H H' → H' p = some (.tup [.ref a1, .ref a2, v3, v4]) → Q (.ref p) H') := qG
    obtain ⟨a3, x3, rfl, e3, r3⟩ := ht3.tupI
    have l3 := r3.length
    walk_at "vs"
    refine v_it_t (SqT.of (k4.tup e1)) ?_
    refine v_lc_tup (xs := x1) [] (fun i acc H' => acc = ((namesT bs).take i).map V.str) (by simp) (fun H' c => SqT.of (c.tup (k4.tup e1))) (fun H' c => rfl) ?_ ?_
    · rintro D i x acc H9 hi nD dS c9 hDl rfl
      obtain ⟨b, z, ys, rfl, hz, eb⟩ := fb i x hi
      walk_at "vs"
      refine ⟨rfl, ?_⟩
      walk_at "vs"
      refine v_ix_t (SqT.of ((k4.trans c9).tup eb)) (atI_0 _ _) ?_
      refine v_lcA c9 hDl nD dS .refl (line9' (by rw [List.length_map, List.length_take]; omega)) fun H10 c10 => ?_
      rw [← snoc_take hz, List.map_append]; rfl
    rintro D5 acc H5 c5 nD5 hD5 rfl
    rw [← nb, List.take_length] at hD5
    have k5 := k4.trans c5
    walk_at "vs"
    refine v_it_t (SqT.of (k5.tup e2)) ?_
    refine v_lc_tup (xs := x2) [] (fun i acc H' => acc = ((namesT ls).take i).map V.str) (by simp) (fun H' c => SqT.of (c.tup (k5.tup e2))) (fun H' c => rfl) ?_ ?_
    · rintro D i x acc H9 hi nD dS c9 hDl rfl
      obtain ⟨b, z, ys, rfl, hz, eb⟩ := fl i x hi
      walk_at "vs"
      refine ⟨rfl, ?_⟩
      walk_at "vs"
      refine v_ix_t (SqT.of ((k5.trans c9).tup eb)) (atI_0 _ _) ?_
      refine v_lcA c9 hDl nD dS .refl (line9' (by rw [List.length_map, List.length_take]; omega)) fun H10 c10 => ?_
      rw [← snoc_take hz, List.map_append]; rfl
    rintro D6 acc H6 c6 nD6 hD6 rfl
    rw [← nl, List.take_length] at hD6
    have k6 := k5.trans c6
    walk_at "vs"
    refine v_it_t (SqT.of (k6.tup e3)) ?_
    refine v_lc_tup (xs := x3) [] (fun i acc H' => ∃ qs : List Addr, acc = qs.map V.ref ∧ Paired (fun p (kv : Key × V) => H' p = some (.tup [kV kv.1, kv.2])) qs (fnK (tak (fs.take i))) ∧ qs.length ≤ i) (by simp) (fun H' c => SqT.of (c.tup (k6.tup e3))) (fun H' c => ⟨[], rfl, .nil, Nat.le_refl _⟩) ?_ ?_
    · rintro D i x acc H9 hi nD dS c9 hDl ⟨qs, rfl, hqs, hql⟩
      obtain ⟨f, hf, rx⟩ := r3.get hi
      have hff := List.all_eq_true.mp hfa f (List.mem_of_getElem? hf)
      have hil : i < fs.length := (List.getElem?_eq_some_iff.mp hf).1
      obtain ⟨b, b1, b2, x4, rfl, eb, eb1, eb2, rr, pl, ol, ple⟩ := fn_at ((rx.on0 k6).on0 c9) hff
      walk_at "vs"
      refine ⟨rfl, ?_⟩
      walk_at "vs"
      refine v_ix_t (SqT.of eb) (atI_0 _ _) ?_
      walk_at "vs"
      refine v_ix_t (SqT.of eb) (atI_1 _ _ _) ?_
      walk_at "vs"
      refine v_len_t (SqT.of eb1) ?_
      walk_at "vs"
      rw [List.length_map, ← ple]
      refine v_newT (line9 (by show 2 ≤ 10000; decide)) fun tp H10 ntp c10 htp => ?_
      refine v_lcA c9 hDl nD dS c10 (line9' (by rw [List.length_map]; omega)) fun H11 c11 => ?_
      refine ⟨qs ++ [tp], by rw [List.map_append]; rfl, ?_, by rw [List.length_append, List.length_singleton]; omega⟩
      rw [← snoc_take hf]
      unfold tak fnK
      rw [List.map_append, List.map_append]
      exact Paired.snoc (Paired.mono (fun _ _ e => c11.tup (c10.tup e)) hqs) (c11.tup htp)
    rintro D7 acc H7 c7 nD7 hD7 ⟨qs, rfl, hqs, _⟩
    rw [l3, List.take_length] at hqs
    have k7 := k6.trans c7
    walk_at "vs"
    refine v_dictL (SqL.of hD7) (Paired.mono (fun _ _ e => SqT.of e) hqs) fun dk H8 ndk c8 hdk => ?_
    rw [tak_nodup hfd] at hdk
    have k8 := k7.trans c8
    have hD5' := (((c6.trans c7).trans c8)).at hD5
    have hD6' := ((c7.trans c8)).at hD6
    walk_at "vs"
    refine v_it_t (SqT.of (k8.tup e3)) ?_
    refine v_for_tup (xs := x3) (fun i σ H' => (∃ v4' v9 v10, σ = [some (.ref a1), some (.ref a2), some (.ref a3), some v4, v4', some (.ref D5), v9, some (.ref D6), some (.ref dk), v10, none]) ∧ Chg [] H8 H' ∧ ∀ f ∈ fs.take i, (rowsT (idxT 3 f)).all (rowT (scF bs ls fs f) 5) = true)
      ⟨⟨_, _, _, rfl⟩, .refl, by simp⟩ (fun i σ H' _ ⟨_, c, _⟩ => SqT.of ((k8.trans c).tup e3)) ?_ ?_
    · rintro i x σ H9 hi ⟨⟨v4', v9, v10, rfl⟩, c9, hp⟩
      obtain ⟨f, hf, rx⟩ := r3.get hi
      have hff := List.all_eq_true.mp hfa f (List.mem_of_getElem? hf)
      have k9 := k8.trans c9
      obtain ⟨b, b1, b2, x4, rfl, eb, eb1, eb2, rr, pl, ol, ple⟩ := fn_at (rx.on0 k9) hff
      walk_at "vs"
      refine v_ix_t (SqT.of eb) (atI_3 _ _ _ _ _) ?_
      walk_at "vs"
      refine v_ix_t (SqT.of eb) (atI_1 _ _ _) ?_
      walk_at "vs"
      refine v_ix_t (SqT.of eb) (atI_2 _ _ _ _) ?_
      refine v_add_tt eb1 eb2 (line9 (by rw [List.length_map, List.length_map]; omega)) fun p10 H10 c10 h10 => ?_
      walk_at "vs"
      refine v_list_t (SqT.of h10) fun p11 H11 n11 c11 h11 => ?_
      rw [← List.map_append] at h11
      walk_at "vs"
      refine v_add_strs ((((c9.trans c10).trans c11)).at hD5') h11 (by rw [List.length_append]; omega) fun p12 H12 n12 c12 h12 => ?_
      walk_at "vs"
      have k12 := ((c9.trans c10).trans c11).trans c12
      refine v_makR fun sc dx H13 nsc c13 hsc => ⟨sc, dx, _, _, _, _, rfl, hsc, fun H14 c14 h14 => ⟨rfl, ?_⟩⟩
      have n12' : H12 sc = none := nsc
      have c1214 : Chg [] H12 H14 := c13.trans' c14 (by simp [n12'])
      have k14 := k12.trans c1214
      have hS : ScAt T.k_Scope.C H14 sc (scF bs ls fs f) := ⟨dx, p12, D6, dk, h14, c1214.at h12, k14.at hD6', k14.at hdk⟩
      walk_at "vs"
      refine ⟨x4, _, F, sc, scF bs ls fs f, rfl, rr.on0 (((c10.trans c11).trans c12).trans c1214), hS, fun hok H15 c15 => ?_, fun hbad H15 c15 => ?_⟩
      · walk_at "vs"
        refine ⟨⟨_, _, _, rfl⟩, k14.trans c15, fun g hg => ?_⟩
        rw [take_snoc hf] at hg
        rcases List.mem_append.mp hg with h | h
        · exact hp g h
        · rw [List.mem_singleton] at h; subst h; exact hok
      · refine qR ?_ H15 ((k8.trans k14).trans c15)
        unfold fineT
        have e0 : fs.all (fun f => (rowsT (idxT 3 f)).all (rowT (scF bs ls fs f) 5)) = false := by
          cases ha : fs.all (fun f => (rowsT (idxT 3 f)).all (rowT (scF bs ls fs f) 5)) with
          | false => rfl
          | true =>
            have := List.all_eq_true.mp ha f (List.mem_of_getElem? hf)
            rw [this] at hbad; cases hbad
        rw [e0, Bool.false_and]
    rintro σ H9 ⟨⟨v4', v9, v10, rfl⟩, c9, hp⟩
    rw [l3, List.take_length] at hp
    have hall : fs.all (fun f => (rowsT (idxT 3 f)).all (rowT (scF bs ls fs f) 5)) = true := List.all_eq_true.mpr hp
    have k9 := k8.trans c9
    walk_at "vs"
    refine v_makR fun sc dx H13 nsc c13 hsc => ⟨sc, dx, _, _, _, _, rfl, hsc, fun H14 c14 h14 => ⟨rfl, ?_⟩⟩
    have n9' : H9 sc = none := nsc
    have c914 : Chg [] H9 H14 := c13.trans' c14 (by simp [n9'])
    have k14 := k9.trans c914
    have hS : ScAt T.k_Scope.C H14 sc (scM bs ls fs) := ⟨dx, D5, D6, dk, h14, (c9.trans c914).at hD5', (c9.trans c914).at hD6', (c9.trans c914).at hdk⟩
    walk_at "vs"
    refine ⟨v4, rs, F, sc, scM bs ls fs, rfl, ht4.on0 k14, hS, fun hok H15 c15 => ?_, fun hbad H15 c15 => ?_⟩
    rotate_left
    · refine qR ?_ H15 (k14.trans c15)
      unfold fineT
      rw [hbad, Bool.and_false]
    have hfine : fineT bs ls fs rs = true := by unfold fineT; rw [hall, hok]; rfl
    obtain ⟨h62, qT, qG⟩ := qG hfine
    obtain ⟨p, hpd, hps, hp1, hp2, hpc⟩ := pg_of hst' hfn hfine
    have k15 := k14.trans c15
    walk_at "vs"
    refine v_newT (line9 (by show 4 ≤ 10000; decide)) fun pt H16 npt c16 hpt => ?_
    have k16 := k15.trans c16
    walk_at "vs"
    have hrp : Rp H16 (.ref pt) p.d := tq_rp (F := F) p.d _ hps (by
      rw [hpd]
      exact .tup hpt (.cons (ht1.on0 k16) (.cons (ht2.on0 k16) (.cons (ht3.on0 k16) (.one (ht4.on0 k16))))))
    refine ⟨_, p, rfl, hrp, ⟨hp1, hp2, by omega⟩, fun fo ys H17 nfo c17 hfo hys => ?_⟩
    walk_at "vs"
    refine v_len_l (SqL.of hfo) ?_
    have hyl := hys.length
    rw [List.length_map, len_trs, ← hpc] at hyl
    rw [hyl]
    walk_at "vs"
    refine v_iteD (fun hgt => ?_) (fun hle => ?_)
    · walk_at "vs"
      exact qT (by omega) H17 (k16.trans c17)
    · walk_at "vs"
      exact qG (by omega) pt H17 (k16.trans c17) (c17.tup hpt)
abbrev s__law_cell_at : Stmt := topS 57
theorem sc__law_cell_at : FnScope ["_law_script", "_law_k"] ["_law_script", "_law_k"] (defScope s__law_cell_at) := ⟨rfl, rfl, rfl, by decide +kernel, rfl, by decide +kernel, by decide +kernel⟩
theorem ok__law_cell_at (T : Txt K mg) (D : DefAt K mg "_law_cell_at" s__law_cell_at) : Own P w K mg base "_law_cell_at" 1 ["_law_script", "_law_k"] (sp_cell K) := by
  refine own_of D (fun _ _ _ _ _ _ us hl => match us, hl with | [_, _], _ => rfl) (fnW_of (N := ["_law_script", "_law_k"]) sc__law_cell_at (fun vs H Q E h => ?_) (fun f cdv A outer s H vs Q E hr h => ?_))
  · obtain ⟨a, ns, k, rfl, _⟩ := h; rfl
  · have nd := sc__law_cell_at.nd
    have hu := L2H.roomH_of hr
    refine ⟨_, (pss_cons (ps_if (pt_cmpR op_ult (pv 1) (pe_callB (call_ulen (K := K)) (by rfl) T.n_len (by decide +kernel) (pa_cons (pv 0) pa_nil)) (nomark _))
      (pss_one (ps_ret (pe_ix (ix_u (K := K) hu) (pv 0) (pv 1) (fun _ _ => rfl)))) pss_nil)
      (pss_one (ps_ret pe_int))), ?_⟩
    clear nd
    obtain ⟨a, ns, k, rfl, hS, hl, k0, q⟩ := h
    walk_at "vs"
    refine v_len_l hS ?_
    walk_at "vs"
    refine v_iteD (fun hk => ?_) (fun hk => ?_)
    · walk_at "vs"
      refine v_ix_lany hS k0 hk fun v hv => ?_
      rw [List.getElem?_map] at hv
      cases e : ns[k.toNat]? with
      | none => rw [e] at hv; cases hv
      | some z => rw [e] at hv; cases hv; exact q z
    · walk_at "vs"
      exact q 0
abbrev s__law_state : Stmt := topS 58
theorem sc__law_state : FnScope ["_law_cell", "_law_k", "_law_drawn"] ["_law_cell", "_law_k"] (defScope s__law_state) := ⟨rfl, rfl, rfl, by decide +kernel, rfl, by decide +kernel, by decide +kernel⟩
theorem ok__law_state (T : Txt K mg) (D : DefAt K mg "_law_state" s__law_state) : Own P w K mg base "_law_state" 1 ["_law_cell", "_law_k"] (sp_state) := by
  refine own_of D (fun _ _ _ _ _ _ us hl => match us, hl with | [_, _], _ => rfl) (fnW_of (N := ["_law_cell", "_law_k", "_law_drawn"]) sc__law_state (fun vs H Q E h => ?_) (fun f cdv A outer s H vs Q E hr h => ?_))
  · obtain ⟨c, k, rfl, _⟩ := h; rfl
  · have nd := sc__law_state.nd
    have hu := L2H.roomH_of hr
    refine ⟨_, (pss_cons (ps_set (i := 2) nd rfl (by first | exact Or.inl rfl | exact Or.inr rfl) (pe_op op_mod (pe_op op_umul (pe_op (op_uadd (K := K)) (pe_op (op_uadd (K := K)) (pv 0) (pe_op op_umul pe_int (pv 1))) pe_int) pe_int) pe_int))
      (pss_one (ps_ret (pe_lst (pa_cons (pe_op op_mod (pe_op (op_uadd (K := K)) (pe_op (op_uadd (K := K)) (pe_op op_umul (pv 2) (pv 2)) (pe_op op_umul pe_int (pv 2))) (pv 1)) pe_int) pa_nil))))), ?_⟩
    clear nd
    obtain ⟨c, k, rfl, q⟩ := h
    walk_at "vs"
    refine v_newL (line9 (by show 1 ≤ 10000; decide)) fun st H1 n1 c1 h1 => ?_
    exact q st H1 n1 c1 ⟨_, h1, by omega, by omega⟩
abbrev s__law_next : Stmt := topS 59
theorem sc__law_next : FnScope ["_law_state_here", "_law_size", "_law_mixed"] ["_law_state_here", "_law_size"] (defScope s__law_next) := ⟨rfl, rfl, rfl, by decide +kernel, rfl, by decide +kernel, by decide +kernel⟩
theorem ok__law_next (T : Txt K mg) (D : DefAt K mg "_law_next" s__law_next) : Own P w K mg base "_law_next" 1 ["_law_state_here", "_law_size"] (sp_next) := by
  refine own_of D (fun _ _ _ _ _ _ us hl => match us, hl with | [_, _], _ => rfl) (fnW_of (N := ["_law_state_here", "_law_size", "_law_mixed"]) sc__law_next (fun vs H Q E h => ?_) (fun f cdv A outer s H vs Q E hr h => ?_))
  · obtain ⟨st, n, rfl, _⟩ := h; rfl
  · have nd := sc__law_next.nd
    have hu := L2H.roomH_of hr
    refine ⟨_, (pss_cons (ps_asg (pe_op op_mod (pe_op (op_uadd (K := K)) (pe_op op_umul (pe_ix (ix_u (K := K) hu) (pv 0) pe_int (fun _ _ => rfl)) pe_int) pe_int) pe_int) (pg_sub (pv 0) pe_int (set_u hu)))
      (pss_cons (ps_set (i := 2) nd rfl (by first | exact Or.inl rfl | exact Or.inr rfl) (pe_op op_mod (pe_op op_umul (pe_ix (ix_u (K := K) hu) (pv 0) pe_int (fun _ _ => rfl)) (pe_ix (ix_u (K := K) hu) (pv 0) pe_int (fun _ _ => rfl))) pe_int))
      (pss_one (ps_ret (pe_op op_mod (pe_op op_fdiv (pv 2) pe_int) (pv 1)))))), ?_⟩
    clear nd
    obtain ⟨st, n, rfl, ⟨z, hz, z0, z1⟩, n1, q⟩ := h
    walk_at "vs"
    refine v_ix_l (SqL.of hz) rfl ?_
    walk_at "vs"
    refine v_set_l hz rfl fun H1 c1 h1 => ?_
    walk_at "vs"
    refine v_ix_l (SqL.of h1) rfl ?_
    walk_at "vs"
    refine v_ix_l (SqL.of h1) rfl ?_
    walk_at "vs"
    exact q _ H1 (Int.emod_nonneg _ (by omega)) (Int.emod_lt_of_pos _ (by omega)) c1 ⟨_, h1, by omega, by omega⟩
abbrev s__law_class : Stmt := topS 60
theorem sc__law_class : FnScope ["_law_e", "_law_found", "_law_kind"] ["_law_e"] (defScope s__law_class) := ⟨rfl, rfl, rfl, by decide +kernel, rfl, by decide +kernel, by decide +kernel⟩
theorem ok__law_class (T : Txt K mg) (D : DefAt K mg "_law_class" s__law_class) : OwnP P w K mg base "_law_class" 1 ["_law_e"] (sp_cls3 T.x_NoProgram.C T.x_NoRow.C T.x_TooLong.C) := by
  refine ownP_of (N := ["_law_e", "_law_found", "_law_kind"]) D (fun _ _ _ _ _ _ us hl => match us, hl with | [_], _ => rfl) sc__law_class (fun a cls d vs H Q E h => ?_) (fun f cdv A outer s H vs Q E e cls d hot hz hr h => ?_)
  · obtain ⟨rfl, _⟩ := h; rfl
  · have nd := sc__law_class.nd
    have hu := hr
    refine ⟨_, (pss_cons (ps_set (i := 1) nd rfl (by first | exact Or.inl rfl | exact Or.inr rfl) (pe_lst pa_nil))
      (pss_cons (L2H.ps_forH (passes_of rfl) ⟨e, hot, List.mem_cons_self⟩ (pi_tupH (K := K) (pe_tup (pa_cons (pe_callB (call_isP (K := K) (e := e) List.mem_cons_self hz (hot_fields hot)) (by rfl) T.n_isinstance (by decide +kernel) (pa_cons (pv 0) (pa_cons (pe_glob (v := .ref (T.x_NoProgram).C) rfl (T.x_NoProgram).g rfl) pa_nil))) (pa_cons (pe_callB (call_isP (K := K) (e := e) List.mem_cons_self hz (hot_fields hot)) (by rfl) T.n_isinstance (by decide +kernel) (pa_cons (pv 0) (pa_cons (pe_glob (v := .ref (T.x_NoRow).C) rfl (T.x_NoRow).g rfl) pa_nil))) (pa_cons (pe_callB (call_isP (K := K) (e := e) List.mem_cons_self hz (hot_fields hot)) (by rfl) T.n_isinstance (by decide +kernel) (pa_cons (pv 0) (pa_cons (pe_glob (v := .ref (T.x_TooLong).C) rfl (T.x_TooLong).g rfl) pa_nil))) (pa_cons (pe_callB (call_isP (K := K) (e := e) List.mem_cons_self hz (hot_fields hot)) (by rfl) T.n_isinstance (by decide +kernel) (pa_cons (pv 0) (pa_cons (pe_glob (v := .ref (T.x_NoWorld).C) rfl (T.x_NoWorld).g rfl) pa_nil))) pa_nil)))))) (pg_name (i := 2) nd rfl (by first | exact Or.inl rfl | exact Or.inr rfl))
      (pss_one (ps_expr (pe_bm PySem.F.plainAttrs_list PySem.F.slot_list_append PySem.F.type_list_append mt_append (pv 1) (pa_cons (pv 2) pa_nil)))))
      (pss_cons (L2H.ps_forH (passes_of rfl) ⟨e, hot, List.mem_cons_self⟩ (pi_tupH (K := K) (pe_tup (pa_cons (pe_callB (call_isP (K := K) (e := e) List.mem_cons_self hz (hot_fields hot)) (by rfl) T.n_isinstance (by decide +kernel) (pa_cons (pv 0) (pa_cons (pe_glob (v := .ref (T.x_NoText).C) rfl (T.x_NoText).g rfl) pa_nil))) (pa_cons (pe_callB (call_isP (K := K) (e := e) List.mem_cons_self hz (hot_fields hot)) (by rfl) T.n_isinstance (by decide +kernel) (pa_cons (pv 0) (pa_cons (pe_glob (v := .ref (T.x_NoStep).C) rfl (T.x_NoStep).g rfl) pa_nil))) (pa_cons (pe_callB (call_isP (K := K) (e := e) List.mem_cons_self hz (hot_fields hot)) (by rfl) T.n_isinstance (by decide +kernel) (pa_cons (pv 0) (pa_cons (pe_glob (v := .ref (T.x_NoCell).C) rfl (T.x_NoCell).g rfl) pa_nil))) (pa_cons (pe_callB (call_isP (K := K) (e := e) List.mem_cons_self hz (hot_fields hot)) (by rfl) T.n_isinstance (by decide +kernel) (pa_cons (pv 0) (pa_cons (pe_glob (v := .ref (T.x_NoDoor).C) rfl (T.x_NoDoor).g rfl) pa_nil))) pa_nil)))))) (pg_name (i := 2) nd rfl (by first | exact Or.inl rfl | exact Or.inr rfl))
      (pss_one (ps_expr (pe_bm PySem.F.plainAttrs_list PySem.F.slot_list_append PySem.F.type_list_append mt_append (pv 1) (pa_cons (pv 2) pa_nil)))))
      (pss_cons (ps_expr (pe_bm PySem.F.plainAttrs_list PySem.F.slot_list_append PySem.F.type_list_append mt_append (pv 1) (pa_cons (pe_callB (call_isP (K := K) (e := e) List.mem_cons_self hz (hot_fields hot)) (by rfl) T.n_isinstance (by decide +kernel) (pa_cons (pv 0) (pa_cons (pe_glob (v := .ref (T.x_NoWord).C) rfl (T.x_NoWord).g rfl) pa_nil))) pa_nil)))
      (pss_cons (ps_if (PW.pt (pw_or (pt_not (pt_u (K := K) (pe_callB (call_isP (K := K) (e := e) List.mem_cons_self hz (hot_fields hot)) (by rfl) T.n_isinstance (by decide +kernel) (pa_cons (pv 0) (pa_cons (pe_bltn (v := .ty "ValueError") (by rfl) T.n_ValueError (by decide +kernel) rfl) pa_nil))))) (pw_or1 (pt_cmpR (op_une (K := K) hu) (pe_bm PySem.F.plainAttrs_list PySem.F.slot_list_count PySem.F.type_list_count (mt_cnt (K := K)) (pv 1) (pa_cons pe_bl pa_nil)) pe_int (nomark _)))))
      (pss_one (ps_ret pe_str)) pss_nil)
      (pss_one (ps_ret (pe_ix (ix_u (K := K) hu) (pe_lst (pa_cons pe_str (pa_cons pe_str (pa_cons pe_str (pa_cons pe_str (pa_cons pe_str (pa_cons pe_str (pa_cons pe_str (pa_cons pe_str (pa_cons pe_str pa_nil)))))))))) (pe_bm PySem.F.plainAttrs_list PySem.F.slot_list_index PySem.F.type_list_index (mt_uindex (K := K)) (pv 1) (pa_cons pe_bl pa_nil)) (fun _ _ => rfl))))))))), ?_⟩
    clear nd
    obtain ⟨rfl, rfl, k, hk, q⟩ := h
    rcases hk with ⟨rfl, rfl⟩ | ⟨rfl, rfl⟩ | ⟨rfl, rfl⟩
    · walk_at "vs"
      refine v_newL (line9 (by show 0 ≤ 10000; decide)) fun fo H1 nfo c1 hfo => ?_
      walk_at "vs"
      refine v_isE T.x_NoProgram.cc (fun _ z => z) T.kit_NoProgram__NoProgram ?_
      walk_at "vs"
      refine v_isE T.x_NoProgram.cc (fun _ z => z) T.kit_NoProgram__NoRow ?_
      walk_at "vs"
      refine v_isE T.x_NoProgram.cc (fun _ z => z) T.kit_NoProgram__TooLong ?_
      walk_at "vs"
      refine v_isE T.x_NoProgram.cc (fun _ z => z) T.kit_NoProgram__NoWorld ?_
      walk_at "vs"
      refine v_newT (line9 (by show 4 ≤ 10000; decide)) fun t2 H2 nt2 c2 ht2 => ?_
      refine v_itH_t (SqT.of ht2) ?_
      refine v_for_tup (xs := [.bl true, .bl false, .bl false, .bl false]) (fun i σ H' => ∃ (v2 : Option V), σ = [some (.ref e.1), some (.ref fo), v2] ∧ Chg [fo] H2 H' ∧ H' fo = some (.lst (([] : List V) ++ ([V.bl true, .bl false, .bl false, .bl false].take i))))
        ⟨_, rfl, .refl, c2.at hfo⟩ (fun i σ H' _ ⟨_, _, c, _⟩ => SqT.of (c.tup ht2)) ?_ ?_
      · rintro i x σ H3 hi ⟨v2, rfl, c3, hf3⟩
        have hil : i < 4 := (List.getElem?_eq_some_iff.mp hi).1
        walk_at "vs"
        refine v_bml (SqL.of hf3) ?_
        walk_at "vs"
        refine v_append hf3 (by rw [List.length_append, List.length_take]; exact line9' (by simp only [List.length_cons, List.length_nil]; omega)) fun H4 c4 hf4 => ?_
        refine ⟨_, rfl, c3.trans c4, ?_⟩
        rw [hf4, List.append_assoc, snoc_take hi]
      rintro σ H3 ⟨v2, rfl, c3, hf3⟩
      replace hf3 : H3 fo = some (.lst [.bl true, .bl false, .bl false, .bl false]) := hf3
      walk_at "vs"
      refine v_isE T.x_NoProgram.cc (fun _ z => z) T.kit_NoProgram__NoText ?_
      walk_at "vs"
      refine v_isE T.x_NoProgram.cc (fun _ z => z) T.kit_NoProgram__NoStep ?_
      walk_at "vs"
      refine v_isE T.x_NoProgram.cc (fun _ z => z) T.kit_NoProgram__NoCell ?_
      walk_at "vs"
      refine v_isE T.x_NoProgram.cc (fun _ z => z) T.kit_NoProgram__NoDoor ?_
      walk_at "vs"
      refine v_newT (line9 (by show 4 ≤ 10000; decide)) fun t4 H4 nt4 c4 ht4 => ?_
      refine v_itH_t (SqT.of ht4) ?_
      refine v_for_tup (xs := [.bl false, .bl false, .bl false, .bl false]) (fun i σ H' => ∃ (v2 : Option V), σ = [some (.ref e.1), some (.ref fo), v2] ∧ Chg [fo] H4 H' ∧ H' fo = some (.lst ([V.bl true, .bl false, .bl false, .bl false] ++ ([V.bl false, .bl false, .bl false, .bl false].take i))))
        ⟨_, rfl, .refl, c4.at hf3⟩ (fun i σ H' _ ⟨_, _, c, _⟩ => SqT.of (c.tup ht4)) ?_ ?_
      · rintro i x σ H5 hi ⟨v2, rfl, c5, hf5⟩
        have hil : i < 4 := (List.getElem?_eq_some_iff.mp hi).1
        walk_at "vs"
        refine v_bml (SqL.of hf5) ?_
        walk_at "vs"
        refine v_append hf5 (by rw [List.length_append, List.length_take]; exact line9' (by simp only [List.length_cons, List.length_nil]; omega)) fun H6 c6 hf6 => ?_
        refine ⟨_, rfl, c5.trans c6, ?_⟩
        rw [hf6, List.append_assoc, snoc_take hi]
      rintro σ H5 ⟨v2, rfl, c5, hf5⟩
      replace hf5 : H5 fo = some (.lst [.bl true, .bl false, .bl false, .bl false, .bl false, .bl false, .bl false, .bl false]) := hf5
      walk_at "vs"
      refine v_bml (SqL.of hf5) ?_
      walk_at "vs"
      refine v_isE T.x_NoProgram.cc (fun _ z => z) T.kit_NoProgram__NoWord ?_
      walk_at "vs"
      refine v_append hf5 (line9' (by show 8 ≤ 10000; decide)) fun H6 c6 hf6 => ?_
      replace hf6 : H6 fo = some (.lst [.bl true, .bl false, .bl false, .bl false, .bl false, .bl false, .bl false, .bl false, .bl false]) := hf6
      walk_at "vs"
      refine v_isE T.x_NoProgram.cc (fun _ z => z) T.kit_NoProgram_T_ValueError ?_
      walk_at "vs"
      refine v_bml (SqL.of hf6) ?_
      walk_at "vs"
      refine v_cnt (SqL.of hf6) rfl (by decide) ?_
      walk_at "vs"
      refine v_iteN (fun z => absurd (by decide) z) (fun _ => ?_)
      walk_at "vs"
      refine v_newL (line9 (by show 9 ≤ 10000; decide)) fun g7 H7 ng7 c7 hg7 => ?_
      walk_at "vs"
      refine v_bml (SqL.of (c7.at hf6)) ?_
      walk_at "vs"
      refine v_index 0 (SqL.of (c7.at hf6)) rfl (by decide) rfl (by decide) (fun m z' hm hz => ?_) ?_
      · omega
      refine v_ix_l (v := .str "program") (SqL.of hg7) rfl ?_
      refine q H7 ?_
      have nfo0 : H fo = none := nfo
      exact ((((c1.trans c2).trans' c3 (by simp [nfo0])).trans c4).trans' c5 (by simp [nfo0])).trans' c6 (by simp [nfo0]) |>.trans c7
    · walk_at "vs"
      refine v_newL (line9 (by show 0 ≤ 10000; decide)) fun fo H1 nfo c1 hfo => ?_
      walk_at "vs"
      refine v_isE T.x_NoRow.cc (fun _ z => z) T.kit_NoRow__NoProgram ?_
      walk_at "vs"
      refine v_isE T.x_NoRow.cc (fun _ z => z) T.kit_NoRow__NoRow ?_
      walk_at "vs"
      refine v_isE T.x_NoRow.cc (fun _ z => z) T.kit_NoRow__TooLong ?_
      walk_at "vs"
      refine v_isE T.x_NoRow.cc (fun _ z => z) T.kit_NoRow__NoWorld ?_
      walk_at "vs"
      refine v_newT (line9 (by show 4 ≤ 10000; decide)) fun t2 H2 nt2 c2 ht2 => ?_
      refine v_itH_t (SqT.of ht2) ?_
      refine v_for_tup (xs := [.bl false, .bl true, .bl false, .bl false]) (fun i σ H' => ∃ (v2 : Option V), σ = [some (.ref e.1), some (.ref fo), v2] ∧ Chg [fo] H2 H' ∧ H' fo = some (.lst (([] : List V) ++ ([V.bl false, .bl true, .bl false, .bl false].take i))))
        ⟨_, rfl, .refl, c2.at hfo⟩ (fun i σ H' _ ⟨_, _, c, _⟩ => SqT.of (c.tup ht2)) ?_ ?_
      · rintro i x σ H3 hi ⟨v2, rfl, c3, hf3⟩
        have hil : i < 4 := (List.getElem?_eq_some_iff.mp hi).1
        walk_at "vs"
        refine v_bml (SqL.of hf3) ?_
        walk_at "vs"
        refine v_append hf3 (by rw [List.length_append, List.length_take]; exact line9' (by simp only [List.length_cons, List.length_nil]; omega)) fun H4 c4 hf4 => ?_
        refine ⟨_, rfl, c3.trans c4, ?_⟩
        rw [hf4, List.append_assoc, snoc_take hi]
      rintro σ H3 ⟨v2, rfl, c3, hf3⟩
      replace hf3 : H3 fo = some (.lst [.bl false, .bl true, .bl false, .bl false]) := hf3
      walk_at "vs"
      refine v_isE T.x_NoRow.cc (fun _ z => z) T.kit_NoRow__NoText ?_
      walk_at "vs"
      refine v_isE T.x_NoRow.cc (fun _ z => z) T.kit_NoRow__NoStep ?_
      walk_at "vs"
      refine v_isE T.x_NoRow.cc (fun _ z => z) T.kit_NoRow__NoCell ?_
      walk_at "vs"
      refine v_isE T.x_NoRow.cc (fun _ z => z) T.kit_NoRow__NoDoor ?_
      walk_at "vs"
      refine v_newT (line9 (by show 4 ≤ 10000; decide)) fun t4 H4 nt4 c4 ht4 => ?_
      refine v_itH_t (SqT.of ht4) ?_
      refine v_for_tup (xs := [.bl false, .bl false, .bl false, .bl false]) (fun i σ H' => ∃ (v2 : Option V), σ = [some (.ref e.1), some (.ref fo), v2] ∧ Chg [fo] H4 H' ∧ H' fo = some (.lst ([V.bl false, .bl true, .bl false, .bl false] ++ ([V.bl false, .bl false, .bl false, .bl false].take i))))
        ⟨_, rfl, .refl, c4.at hf3⟩ (fun i σ H' _ ⟨_, _, c, _⟩ => SqT.of (c.tup ht4)) ?_ ?_
      · rintro i x σ H5 hi ⟨v2, rfl, c5, hf5⟩
        have hil : i < 4 := (List.getElem?_eq_some_iff.mp hi).1
        walk_at "vs"
        refine v_bml (SqL.of hf5) ?_
        walk_at "vs"
        refine v_append hf5 (by rw [List.length_append, List.length_take]; exact line9' (by simp only [List.length_cons, List.length_nil]; omega)) fun H6 c6 hf6 => ?_
        refine ⟨_, rfl, c5.trans c6, ?_⟩
        rw [hf6, List.append_assoc, snoc_take hi]
      rintro σ H5 ⟨v2, rfl, c5, hf5⟩
      replace hf5 : H5 fo = some (.lst [.bl false, .bl true, .bl false, .bl false, .bl false, .bl false, .bl false, .bl false]) := hf5
      walk_at "vs"
      refine v_bml (SqL.of hf5) ?_
      walk_at "vs"
      refine v_isE T.x_NoRow.cc (fun _ z => z) T.kit_NoRow__NoWord ?_
      walk_at "vs"
      refine v_append hf5 (line9' (by show 8 ≤ 10000; decide)) fun H6 c6 hf6 => ?_
      replace hf6 : H6 fo = some (.lst [.bl false, .bl true, .bl false, .bl false, .bl false, .bl false, .bl false, .bl false, .bl false]) := hf6
      walk_at "vs"
      refine v_isE T.x_NoRow.cc (fun _ z => z) T.kit_NoRow_T_ValueError ?_
      walk_at "vs"
      refine v_bml (SqL.of hf6) ?_
      walk_at "vs"
      refine v_cnt (SqL.of hf6) rfl (by decide) ?_
      walk_at "vs"
      refine v_iteN (fun z => absurd (by decide) z) (fun _ => ?_)
      walk_at "vs"
      refine v_newL (line9 (by show 9 ≤ 10000; decide)) fun g7 H7 ng7 c7 hg7 => ?_
      walk_at "vs"
      refine v_bml (SqL.of (c7.at hf6)) ?_
      walk_at "vs"
      refine v_index 1 (SqL.of (c7.at hf6)) rfl (by decide) rfl (by decide) (fun m z' hm hz => ?_) ?_
      · have : m = 0 := by omega
        rcases this with rfl <;> (cases hz; rfl)
      refine v_ix_l (v := .str "row") (SqL.of hg7) rfl ?_
      refine q H7 ?_
      have nfo0 : H fo = none := nfo
      exact ((((c1.trans c2).trans' c3 (by simp [nfo0])).trans c4).trans' c5 (by simp [nfo0])).trans' c6 (by simp [nfo0]) |>.trans c7
    · walk_at "vs"
      refine v_newL (line9 (by show 0 ≤ 10000; decide)) fun fo H1 nfo c1 hfo => ?_
      walk_at "vs"
      refine v_isE T.x_TooLong.cc (fun _ z => z) T.kit_TooLong__NoProgram ?_
      walk_at "vs"
      refine v_isE T.x_TooLong.cc (fun _ z => z) T.kit_TooLong__NoRow ?_
      walk_at "vs"
      refine v_isE T.x_TooLong.cc (fun _ z => z) T.kit_TooLong__TooLong ?_
      walk_at "vs"
      refine v_isE T.x_TooLong.cc (fun _ z => z) T.kit_TooLong__NoWorld ?_
      walk_at "vs"
      refine v_newT (line9 (by show 4 ≤ 10000; decide)) fun t2 H2 nt2 c2 ht2 => ?_
      refine v_itH_t (SqT.of ht2) ?_
      refine v_for_tup (xs := [.bl false, .bl false, .bl true, .bl false]) (fun i σ H' => ∃ (v2 : Option V), σ = [some (.ref e.1), some (.ref fo), v2] ∧ Chg [fo] H2 H' ∧ H' fo = some (.lst (([] : List V) ++ ([V.bl false, .bl false, .bl true, .bl false].take i))))
        ⟨_, rfl, .refl, c2.at hfo⟩ (fun i σ H' _ ⟨_, _, c, _⟩ => SqT.of (c.tup ht2)) ?_ ?_
      · rintro i x σ H3 hi ⟨v2, rfl, c3, hf3⟩
        have hil : i < 4 := (List.getElem?_eq_some_iff.mp hi).1
        walk_at "vs"
        refine v_bml (SqL.of hf3) ?_
        walk_at "vs"
        refine v_append hf3 (by rw [List.length_append, List.length_take]; exact line9' (by simp only [List.length_cons, List.length_nil]; omega)) fun H4 c4 hf4 => ?_
        refine ⟨_, rfl, c3.trans c4, ?_⟩
        rw [hf4, List.append_assoc, snoc_take hi]
      rintro σ H3 ⟨v2, rfl, c3, hf3⟩
      replace hf3 : H3 fo = some (.lst [.bl false, .bl false, .bl true, .bl false]) := hf3
      walk_at "vs"
      refine v_isE T.x_TooLong.cc (fun _ z => z) T.kit_TooLong__NoText ?_
      walk_at "vs"
      refine v_isE T.x_TooLong.cc (fun _ z => z) T.kit_TooLong__NoStep ?_
      walk_at "vs"
      refine v_isE T.x_TooLong.cc (fun _ z => z) T.kit_TooLong__NoCell ?_
      walk_at "vs"
      refine v_isE T.x_TooLong.cc (fun _ z => z) T.kit_TooLong__NoDoor ?_
      walk_at "vs"
      refine v_newT (line9 (by show 4 ≤ 10000; decide)) fun t4 H4 nt4 c4 ht4 => ?_
      refine v_itH_t (SqT.of ht4) ?_
      refine v_for_tup (xs := [.bl false, .bl false, .bl false, .bl false]) (fun i σ H' => ∃ (v2 : Option V), σ = [some (.ref e.1), some (.ref fo), v2] ∧ Chg [fo] H4 H' ∧ H' fo = some (.lst ([V.bl false, .bl false, .bl true, .bl false] ++ ([V.bl false, .bl false, .bl false, .bl false].take i))))
        ⟨_, rfl, .refl, c4.at hf3⟩ (fun i σ H' _ ⟨_, _, c, _⟩ => SqT.of (c.tup ht4)) ?_ ?_
      · rintro i x σ H5 hi ⟨v2, rfl, c5, hf5⟩
        have hil : i < 4 := (List.getElem?_eq_some_iff.mp hi).1
        walk_at "vs"
        refine v_bml (SqL.of hf5) ?_
        walk_at "vs"
        refine v_append hf5 (by rw [List.length_append, List.length_take]; exact line9' (by simp only [List.length_cons, List.length_nil]; omega)) fun H6 c6 hf6 => ?_
        refine ⟨_, rfl, c5.trans c6, ?_⟩
        rw [hf6, List.append_assoc, snoc_take hi]
      rintro σ H5 ⟨v2, rfl, c5, hf5⟩
      replace hf5 : H5 fo = some (.lst [.bl false, .bl false, .bl true, .bl false, .bl false, .bl false, .bl false, .bl false]) := hf5
      walk_at "vs"
      refine v_bml (SqL.of hf5) ?_
      walk_at "vs"
      refine v_isE T.x_TooLong.cc (fun _ z => z) T.kit_TooLong__NoWord ?_
      walk_at "vs"
      refine v_append hf5 (line9' (by show 8 ≤ 10000; decide)) fun H6 c6 hf6 => ?_
      replace hf6 : H6 fo = some (.lst [.bl false, .bl false, .bl true, .bl false, .bl false, .bl false, .bl false, .bl false, .bl false]) := hf6
      walk_at "vs"
      refine v_isE T.x_TooLong.cc (fun _ z => z) T.kit_TooLong_T_ValueError ?_
      walk_at "vs"
      refine v_bml (SqL.of hf6) ?_
      walk_at "vs"
      refine v_cnt (SqL.of hf6) rfl (by decide) ?_
      walk_at "vs"
      refine v_iteN (fun z => absurd (by decide) z) (fun _ => ?_)
      walk_at "vs"
      refine v_newL (line9 (by show 9 ≤ 10000; decide)) fun g7 H7 ng7 c7 hg7 => ?_
      walk_at "vs"
      refine v_bml (SqL.of (c7.at hf6)) ?_
      walk_at "vs"
      refine v_index 2 (SqL.of (c7.at hf6)) rfl (by decide) rfl (by decide) (fun m z' hm hz => ?_) ?_
      · have : m = 0 ∨ m = 1 := by omega
        rcases this with rfl | rfl <;> (cases hz; rfl)
      refine v_ix_l (v := .str "long") (SqL.of hg7) rfl ?_
      refine q H7 ?_
      have nfo0 : H fo = none := nfo
      exact ((((c1.trans c2).trans' c3 (by simp [nfo0])).trans c4).trans' c5 (by simp [nfo0])).trans' c6 (by simp [nfo0]) |>.trans c7
abbrev s__law_sizes : Stmt := topS 61
theorem sc__law_sizes : FnScope ["_law_script", "_law_state_here", "_law_sizes_here", "_law_words", "_law_k", "_law_word"] ["_law_script"] (defScope s__law_sizes) := ⟨rfl, rfl, rfl, by decide +kernel, rfl, by decide +kernel, by decide +kernel⟩
theorem ok__law_sizes (T : Txt K mg) (D : DefAt K mg "_law_sizes" s__law_sizes) (O__law_state : Own P w K mg base "_law_state" 1 ["_law_cell", "_law_k"] (sp_state)) (O__law_cell_at : Own P w K mg base "_law_cell_at" 1 ["_law_script", "_law_k"] (sp_cell K)) (O__law_next : Own P w K mg base "_law_next" 1 ["_law_state_here", "_law_size"] (sp_next)) : Own P w K mg base "_law_sizes" 2 ["_law_script"] (sp_sizes K) := by
  refine own_of D (fun _ _ _ _ _ _ us hl => match us, hl with | [_], _ => rfl) (fnW_of (N := ["_law_script", "_law_state_here", "_law_sizes_here", "_law_words", "_law_k", "_law_word"]) sc__law_sizes (fun vs H Q E h => ?_) (fun f cdv A outer s H vs Q E hr h => ?_))
  · obtain ⟨a, ns, rfl, _⟩ := h; rfl
  · have nd := sc__law_sizes.nd
    have hu := L2H.roomH_of hr
    have TK : L2N.Takes (cxOf (L2N.CX P w) P w K mg base ["_law_script", "_law_state_here", "_law_sizes_here", "_law_words", "_law_k", "_law_word"] "_law_sizes" (defScope s__law_sizes) f cdv A outer s H E) (fun cls d _ H => E cls d H) := L2N.takes_of rfl rfl rfl rfl
    refine ⟨_, (pss_cons (ps_set (i := 1) nd rfl (by first | exact Or.inl rfl | exact Or.inr rfl) (pe_own O__law_state (by decide) hr rfl (fun σ => L2N.passAt TK σ) (pa_cons (pe_own O__law_cell_at (by decide) hr rfl (fun σ => L2N.passAt TK σ) (pa_cons (pv 0) (pa_cons pe_int pa_nil))) (pa_cons pe_int pa_nil))))
      (pss_cons (ps_set (i := 2) nd rfl (by first | exact Or.inl rfl | exact Or.inr rfl) (pe_disp (pps_cons pe_str pe_int (pps_cons pe_str pe_int (pps_cons pe_str pe_int (pps_cons pe_str pe_int (pps_cons pe_str pe_int (pps_cons pe_str pe_int (pps_cons pe_str pe_int (pps_cons pe_str pe_int pps_nil)))))))) rfl rfl (by simp) (by decide)))
      (pss_cons (ps_asg pe_int (pg_sub (pv 2) pe_str (set_u hu)))
      (pss_cons (ps_asg (pe_op op_sub pe_int (pe_own O__law_next (by decide) hr rfl (fun σ => L2N.passAt TK σ) (pa_cons (pv 1) (pa_cons pe_int pa_nil)))) (pg_sub (pv 2) pe_str (set_u hu)))
      (pss_cons (ps_if (pt_cmpR (op_ueq (K := K) hu) (pe_own O__law_next (by decide) hr rfl (fun σ => L2N.passAt TK σ) (pa_cons (pv 1) (pa_cons pe_int pa_nil))) pe_int (nomark _))
      (pss_one (ps_ret (pv 2))) pss_nil)
      (pss_cons (ps_set (i := 3) nd rfl (by first | exact Or.inl rfl | exact Or.inr rfl) (pe_lst (pa_cons pe_str (pa_cons pe_str (pa_cons pe_str (pa_cons pe_str (pa_cons pe_str (pa_cons pe_str (pa_cons pe_str (pa_cons pe_str (pa_cons pe_str (pa_cons pe_str pa_nil))))))))))))
      (pss_cons (ps_for (passes_of rfl) rfl (pi_range1 rfl T.n_range (pa_cons (pe_op (op_uadd (K := K)) pe_int (pe_own O__law_next (by decide) hr rfl (fun σ => L2N.passAt TK σ) (pa_cons (pv 1) (pa_cons pe_int pa_nil)))) pa_nil)) (pg_name (i := 4) nd rfl (by first | exact Or.inl rfl | exact Or.inr rfl))
      (pss_cons (ps_set (i := 5) nd rfl (by first | exact Or.inl rfl | exact Or.inr rfl) (pe_ix (ix_u (K := K) hu) (pv 3) (pe_own O__law_next (by decide) hr rfl (fun σ => L2N.passAt TK σ) (pa_cons (pv 1) (pa_cons pe_int pa_nil))) (fun _ _ => rfl)))
      (pss_one (ps_asg (pe_op op_sub (pe_op (op_uadd (K := K)) (pe_ix (ix_u (K := K) hu) (pv 2) (pv 5) (fun _ _ => rfl)) pe_int) (pe_op op_umul pe_int (pe_op op_fdiv (pe_own O__law_next (by decide) hr rfl (fun σ => L2N.passAt TK σ) (pa_cons (pv 1) (pa_cons pe_int pa_nil))) pe_int))) (pg_sub (pv 2) (pv 5) (set_u hu))))))
      (pss_one (ps_ret (pv 2)))))))))), ?_⟩
    clear nd
    obtain ⟨a, ns, rfl, hS, hl, q⟩ := h
    walk_at "vs"
    refine ⟨a, ns, 0, rfl, hS, hl, by omega, fun c0 => ?_⟩
    walk_at "vs"
    refine ⟨c0, 1, rfl, fun st H1 nst c1 hst => ?_⟩
    walk_at "vs"
    refine v_disp fun p H2 np c2 hp => ?_
    walk_at "vs"
    refine v_dispE ([(.inr (Str.ofString "box"), .int 6), (.inr (Str.ofString "list"), .int 3), (.inr (Str.ofString "thing"), .int 12), (.inr (Str.ofString "function"), .int 4), (.inr (Str.ofString "name"), .int 3), (.inr (Str.ofString "deep"), .int 4), (.inr (Str.ofString "row"), .int 5), (.inr (Str.ofString "sign"), .int 6)] : List (Key × V)) hp rfl (by show 8 ≤ 15; decide) fun H3 c3 h3 => ?_
    have pst : p ≠ st := hst.neN np
    replace h3 : H3 p = some (.dK ([(.inr (Str.ofString "box"), .int 6), (.inr (Str.ofString "list"), .int 3), (.inr (Str.ofString "thing"), .int 12), (.inr (Str.ofString "function"), .int 4), (.inr (Str.ofString "name"), .int 3), (.inr (Str.ofString "deep"), .int 4), (.inr (Str.ofString "row"), .int 5), (.inr (Str.ofString "sign"), .int 6)] : List (Key × V))) := h3
    walk_at "vs"
    refine v_set_d (k := .inr (Str.ofString "number")) h3 rfl (line9' (by show 8 ≤ 10000; decide)) fun H4 c4 h4 => ?_
    replace h4 : H4 p = some (.dK ([(.inr (Str.ofString "box"), .int 6), (.inr (Str.ofString "list"), .int 3), (.inr (Str.ofString "thing"), .int 12), (.inr (Str.ofString "function"), .int 4), (.inr (Str.ofString "name"), .int 3), (.inr (Str.ofString "deep"), .int 4), (.inr (Str.ofString "row"), .int 5), (.inr (Str.ofString "sign"), .int 6), (.inr (Str.ofString "number"), .int 999999)] : List (Key × V))) := h4
    walk_at "vs"
    have hst4 : StAt H4 st := ((hst.on0 c2).on c3 (by simpa using pst.symm)).on c4 (by simpa using pst.symm)
    refine ⟨st, 2, rfl, hst4, by omega, fun i H5 i0 i1 c5 hst5 => ?_⟩
    walk_at "vs"
    refine v_set_d (k := .inr (Str.ofString "rows")) (c5.keep h4 (by simpa using pst)) rfl (line9' (by show 9 ≤ 10000; decide)) fun H6 c6 h6 => ?_
    have hb : ∃ z, z ∈ szN 0 ∧ H6 p = some (.dK z.kv) := by
      have hi : i = 0 ∨ i = 1 := by omega
      rcases hi with rfl | rfl
      · exact ⟨Sz.base 60, List.mem_cons_self, h6⟩
      · exact ⟨Sz.base 59, List.mem_cons_of_mem _ List.mem_cons_self, h6⟩
    obtain ⟨z0, hz0, h6⟩ := hb
    have hst6 := hst5.on c6 (by simpa using pst.symm)
    have nst' : H st = none := nst
    have np1 : H1 p = none := np
    have npH : H p = none := c1.dom np
    have k6 : Chg [] H H6 := ((((c1.trans c2).trans' c3 (by simp [npH])).trans' c4 (by simp [npH])).trans' c5 (by simp [nst'])).trans' c6 (by simp [npH])
    walk_at "vs"
    refine ⟨st, 2, rfl, hst6, by omega, fun i H7 i0 i1 c7 hst7 => ?_⟩
    have k7 := k6.trans' c7 (by simp [nst'])
    walk_at "vs"
    refine v_iteD (fun _ => ?_) (fun _ => ?_)
    · walk_at "vs"
      exact q p z0 H7 (List.mem_append_left _ hz0) k7 (c7.keep h6 (by simpa using pst))
    walk_at "vs"
    refine v_newL (line9 (by show 10 ≤ 10000; decide)) fun w0 H8 nw c8 hw => ?_
    have k8 := k7.trans c8
    have hst8 := hst7.on0 c8
    have h8 := c8.at (c7.keep h6 (by simpa using pst))
    have w0st : w0 ≠ st := hst7.neN nw
    have w0p : w0 ≠ p := by rintro rfl; rw [c7.keep h6 (by simpa using pst)] at nw; cases nw
    walk_at "vs"
    refine ⟨st, 2, rfl, hst8, by omega, fun j H9 j0 j1 c9 hst9 => ?_⟩
    have k9 := k8.trans' c9 (by simp [nst'])
    have h9 := c9.keep h8 (by simpa using pst)
    have hw9 := c9.keep hw (by simpa using w0st)
    walk_at "vs"
    refine v_rng1' (by omega) (by omega) ?_
    refine v_for_range (fun i σ H' => ∃ (v4 v5 : Option V) (z : Sz), z ∈ szN i ∧ σ = [some (.ref a), some (.ref st), some (.ref p), some (.ref w0), v4, v5] ∧ Chg [st, p] H9 H' ∧ StAt H' st ∧ H' p = some (.dK z.kv)) ⟨_, _, z0, hz0, rfl, .refl, hst9, h9⟩ ?_ ?_
    · rintro i σ H10 hi ⟨v4, v5, z, hz, rfl, c10, hst10, h10⟩
      walk_at "vs"
      refine ⟨st, 10, rfl, hst10, by omega, fun k H11 k0 k1 c11 hst11 => ?_⟩
      obtain ⟨kn, rfl⟩ := Int.eq_ofNat_of_zero_le k0
      have hk : kn < 10 := by omega
      obtain ⟨w, hw'⟩ : ∃ w, szW[kn]? = some w := ⟨_, List.getElem?_eq_getElem (by show kn < 10; exact hk)⟩
      have hw11 := c11.keep (c10.keep hw9 (by simp [w0st, w0p])) (by simpa using w0st)
      have h11 := c11.keep h10 (by simpa using pst)
      refine v_ix_l (v := .str w) (SqL.of hw11) (by rw [atI_nat]; show (szW.map V.str)[kn]? = _; rw [List.getElem?_map, hw']; rfl) ?_
      walk_at "vs"
      refine v_ix_d (v := .int (z.at kn)) (by rw [← Sz.look z hw']; exact DGet.k (k := .inr w) h11) ?_
      have hb := bdZ_all z (szN_all hz (by omega))
      have hat := at_bd hb kn
      walk_at "vs"
      refine ⟨st, 5, rfl, hst11, by omega, fun d H12 d0 d1 c12 hst12 => ?_⟩
      have h12 := c12.keep h11 (by simpa using pst)
      walk_at "vs"
      obtain ⟨n, hz', hv⟩ : ∃ n : Nat, z.put n kn ∈ szN (i + 1) ∧ (n : Int) = (z.at kn : Int) + 1 - 2 * (d / 4) := by
        by_cases hd : d < 4
        · exact ⟨z.at kn + 1, (sz_step hz hk).1, by omega⟩
        · exact ⟨z.at kn - 1, (sz_step hz hk).2, by omega⟩
      refine v_set_d (k := .inr w) h12 rfl (line9' (by show 10 ≤ 10000; decide)) fun H13 c13 h13 => ?_
      rw [← hv, Sz.put_kv z n hw'] at h13
      exact ⟨_, _, _, hz', rfl, (((c10.trans (c11.mono (by simp))).trans (c12.mono (by simp))).trans (c13.mono (by simp))), hst12.on c13 (by simpa using pst.symm), h13⟩
    · rintro σ H10 ⟨v4, v5, z, hz, rfl, c10, hst10, h10⟩
      walk_at "vs"
      refine q p z H10 ?_ (k9.trans' c10 (by simp [nst', npH])) h10
      exact szN_all hz (by omega)
abbrev s__law_name : Stmt := topS 62
theorem sc__law_name : FnScope ["_law_sizes_here", "_law_k"] ["_law_sizes_here", "_law_k"] (defScope s__law_name) := ⟨rfl, rfl, rfl, by decide +kernel, rfl, by decide +kernel, by decide +kernel⟩
theorem ok__law_name (T : Txt K mg) (D : DefAt K mg "_law_name" s__law_name) : Own P w K mg base "_law_name" 1 ["_law_sizes_here", "_law_k"] (sp_lnm) := by
  refine own_of D (fun _ _ _ _ _ _ us hl => match us, hl with | [_, _], _ => rfl) (fnW_of (N := ["_law_sizes_here", "_law_k"]) sc__law_name (fun vs H Q E h => ?_) (fun f cdv A outer s H vs Q E hr h => ?_))
  · obtain ⟨p, z, k, rfl, _⟩ := h; rfl
  · have nd := sc__law_name.nd
    have hu := L2H.roomH_of hr
    refine ⟨_, (pss_one (ps_ret (pe_op (op_umulT (K := K)) (pe_ix (ix_u (K := K) hu) pe_str (pv 1) (fun _ _ => rfl)) (pe_ix (ix_u (K := K) hu) (pv 0) pe_str (fun _ _ => rfl))))), ?_⟩
    clear nd
    obtain ⟨p, z, k, rfl, hp, hb, hk, q⟩ := h
    have hs := at_bd hb 7
    walk_at "vs"
    refine v_ix_s (c := 97 + k) (by show 16 ≤ sizeLine; exact line9 (by show 16 ≤ 10000; decide)) (abc16 hk) ?_
    walk_at "vs"
    refine v_ix_d (v := .int z.sgn) (DGet.k (k := .inr (Str.ofString "sign")) hp) ?_
    walk_at "vs"
    refine v_mulT_s (by have := hs.1; exact this) (by have := hs.2 (by decide); have h : z.sgn ≤ 100 := this; omega) (by show 1 ≤ 1000; decide) ?_
    walk_at "vs"
    exact q
abbrev s__law_value : Stmt := topS 63
theorem sc__law_value : FnScope ["_law_sizes_here", "_law_value_here", "_law_k"] ["_law_sizes_here"] (defScope s__law_value) := ⟨rfl, rfl, rfl, by decide +kernel, rfl, by decide +kernel, by decide +kernel⟩
theorem ok__law_value (T : Txt K mg) (D : DefAt K mg "_law_value" s__law_value) : Own P w K mg base "_law_value" 1 ["_law_sizes_here"] (sp_lval) := by
  refine own_of D (fun _ _ _ _ _ _ us hl => match us, hl with | [_], _ => rfl) (fnW_of (N := ["_law_sizes_here", "_law_value_here", "_law_k"]) sc__law_value (fun vs H Q E h => ?_) (fun f cdv A outer s H vs Q E hr h => ?_))
  · obtain ⟨p, z, rfl, _⟩ := h; rfl
  · have nd := sc__law_value.nd
    have hu := L2H.roomH_of hr
    refine ⟨_, (pss_cons (ps_set (i := 1) nd rfl (by first | exact Or.inl rfl | exact Or.inr rfl) (pe_tup (pa_cons pe_str (pa_cons pe_int pa_nil))))
      (pss_cons (ps_for (passes_of rfl) rfl (pi_range1 rfl T.n_range (pa_cons (pe_op op_sub (pe_ix (ix_u (K := K) hu) (pv 0) pe_str (fun _ _ => rfl)) pe_int) pa_nil)) (pg_name (i := 2) nd rfl (by first | exact Or.inl rfl | exact Or.inr rfl))
      (pss_one (ps_set (i := 1) nd rfl (by first | exact Or.inl rfl | exact Or.inr rfl) (pe_tup (pa_cons pe_str (pa_cons (pv 1) (pa_cons (pe_tup (pa_cons pe_str (pa_cons pe_int pa_nil))) pa_nil)))))))
      (pss_one (ps_ret (pv 1))))), ?_⟩
    clear nd
    obtain ⟨p, z, rfl, hp, hb, q⟩ := h
    have hs := at_bd hb 5
    have hs1 : 1 ≤ z.dep := hs.1
    have hs2 : z.dep ≤ 100 := hs.2 (by decide)
    walk_at "vs"
    refine v_newT (line9 (by show 2 ≤ 10000; decide)) fun t1 H1 n1 c1 h1 => ?_
    walk_at "vs"
    refine v_ix_d (v := .int z.dep) (DGet.k (k := .inr (Str.ofString "deep")) (c1.at hp)) ?_
    walk_at "vs"
    refine v_rng1' (by omega) (by omega) ?_
    refine v_for_range (fun i σ H' => ∃ (v2 : Option V) (v : V), σ = [some (.ref p), some v, v2] ∧ Chg [] H1 H' ∧ Rp H' v (valZ i).d) ⟨none, _, rfl, .refl, .tup h1 (.cons (.str (by decide +kernel)) (.one (.int 1)))⟩ ?_ ?_
    · rintro i σ H2 hi ⟨v2, v, rfl, c2, hv⟩
      walk_at "vs"
      refine v_newT (line9 (by show 2 ≤ 10000; decide)) fun t3 H3 n3 c3 h3 => ?_
      walk_at "vs"
      refine v_newT (line9 (by show 3 ≤ 10000; decide)) fun t4 H4 n4 c4 h4 => ?_
      walk_at "vs"
      refine ⟨_, _, rfl, (c2.trans c3).trans c4, .tup h4 (.cons (.str (by decide +kernel)) (.cons (hv.on (c3.trans c4)) (.one (.tup (c4.tup h3) (.cons (.str (by decide +kernel)) (.one (.int 0)))))))⟩
    rintro σ H2 ⟨v2, v, rfl, c2, hv⟩
    walk_at "vs"
    refine q v H2 (c1.trans c2) ?_
    have e : ((z.dep : Int) - 1).toNat = z.dep - 1 := by omega
    rw [e] at hv
    exact hv
abbrev s__law_row : Stmt := topS 64
theorem sc__law_row : FnScope ["_law_sizes_here", "_law_row_here", "_law_k", "_law_some"] ["_law_sizes_here"] (defScope s__law_row) := ⟨rfl, rfl, rfl, by decide +kernel, rfl, by decide +kernel, by decide +kernel⟩
theorem ok__law_row (T : Txt K mg) (D : DefAt K mg "_law_row" s__law_row) (O__law_value : Own P w K mg base "_law_value" 1 ["_law_sizes_here"] (sp_lval)) (O__law_name : Own P w K mg base "_law_name" 1 ["_law_sizes_here", "_law_k"] (sp_lnm)) : Own P w K mg base "_law_row" 2 ["_law_sizes_here"] (sp_lrw) := by
  refine own_of D (fun _ _ _ _ _ _ us hl => match us, hl with | [_], _ => rfl) (fnW_of (N := ["_law_sizes_here", "_law_row_here", "_law_k", "_law_some"]) sc__law_row (fun vs H Q E h => ?_) (fun f cdv A outer s H vs Q E hr h => ?_))
  · obtain ⟨p, z, rfl, _⟩ := h; rfl
  · have nd := sc__law_row.nd
    have hu := L2H.roomH_of hr
    have TK : L2N.Takes (cxOf (L2N.CX P w) P w K mg base ["_law_sizes_here", "_law_row_here", "_law_k", "_law_some"] "_law_row" (defScope s__law_row) f cdv A outer s H E) (fun cls d _ H => E cls d H) := L2N.takes_of rfl rfl rfl rfl
    refine ⟨_, (pss_cons (ps_set (i := 1) nd rfl (by first | exact Or.inl rfl | exact Or.inr rfl) (pe_tup (pa_cons pe_str (pa_cons (pe_own O__law_value (by decide) hr rfl (fun σ => L2N.passAt TK σ) (pa_cons (pv 0) pa_nil)) pa_nil))))
      (pss_cons (ps_for (passes_of rfl) rfl (pi_range1 rfl T.n_range (pa_cons (pe_op op_sub (pe_ix (ix_u (K := K) hu) (pv 0) pe_str (fun _ _ => rfl)) pe_int) pa_nil)) (pg_name (i := 2) nd rfl (by first | exact Or.inl rfl | exact Or.inr rfl))
      (pss_cons (ps_set (i := 3) nd rfl (by first | exact Or.inl rfl | exact Or.inr rfl) (pe_lst (pa_cons (pe_tup (pa_cons pe_str (pa_cons (pe_tup (pa_cons pe_str (pa_cons pe_int pa_nil))) (pa_cons (pe_tup (pa_cons (pv 1) pa_nil)) pa_nil)))) (pa_cons (pe_tup (pa_cons pe_str (pa_cons (pe_tup (pa_cons pe_str (pa_cons pe_int pa_nil))) (pa_cons (pe_tup pa_nil) (pa_cons (pe_tup (pa_cons (pv 1) pa_nil)) pa_nil))))) pa_nil))))
      (pss_one (ps_set (i := 1) nd rfl (by first | exact Or.inl rfl | exact Or.inr rfl) (pe_ix (ix_u (K := K) hu) (pe_op (op_uadd (K := K)) (pv 3) (pe_lst (pa_cons (pe_tup (pa_cons pe_str (pa_cons (pe_tup (pa_cons (pv 1) pa_nil)) (pa_cons (pe_own O__law_name (by decide) hr rfl (fun σ => L2N.passAt TK σ) (pa_cons (pv 0) (pa_cons pe_int pa_nil))) (pa_cons (pe_tup pa_nil) pa_nil))))) pa_nil))) (pe_op op_mod (pv 2) pe_int) (fun _ _ => rfl))))))
      (pss_one (ps_ret (pv 1))))), ?_⟩
    clear nd
    obtain ⟨p, z, rfl, hp, hb, q⟩ := h
    have hs := at_bd hb 6
    have hs1 : 1 ≤ z.row := hs.1
    have hs2 : z.row ≤ 100 := hs.2 (by decide)
    walk_at "vs"
    refine ⟨p, z, rfl, hp, hb, fun v H1 c1 hv => ?_⟩
    walk_at "vs"
    refine v_newT (line9 (by show 2 ≤ 10000; decide)) fun t2 H2 n2 c2 h2 => ?_
    walk_at "vs"
    refine v_ix_d (v := .int z.row) (DGet.k (k := .inr (Str.ofString "row")) (c2.at (c1.at hp))) ?_
    walk_at "vs"
    refine v_rng1' (by omega) (by omega) ?_
    refine v_for_range (fun i σ H' => ∃ (v2 v3 : Option V) (v : V), σ = [some (.ref p), some v, v2, v3] ∧ Chg [] H2 H' ∧ Rp H' v (rwZ z i).d) ⟨none, none, _, rfl, .refl, .tup h2 (.cons (.str (by decide +kernel)) (.one (hv.on c2)))⟩ ?_ ?_
    · rintro i σ H3 hi ⟨v2, v3, u, rfl, c3, hu⟩
      have hp3 := c3.at (c2.at (c1.at hp))
      walk_at "vs"
      refine v_newT (line9 (by show 2 ≤ 10000; decide)) fun t4 H4 n4 c4 h4 => ?_
      walk_at "vs"
      refine v_newT (line9 (by show 1 ≤ 10000; decide)) fun t5 H5 n5 c5 h5 => ?_
      walk_at "vs"
      refine v_newT (line9 (by show 3 ≤ 10000; decide)) fun t6 H6 n6 c6 h6 => ?_
      walk_at "vs"
      refine v_newT (line9 (by show 2 ≤ 10000; decide)) fun t7 H7 n7 c7 h7 => ?_
      walk_at "vs"
      refine v_newT (line9 (by show 0 ≤ 10000; decide)) fun t8 H8 n8 c8 h8 => ?_
      walk_at "vs"
      refine v_newT (line9 (by show 1 ≤ 10000; decide)) fun t9 H9 n9 c9 h9 => ?_
      walk_at "vs"
      refine v_newT (line9 (by show 4 ≤ 10000; decide)) fun u1 H10 n10 c10 h10 => ?_
      walk_at "vs"
      refine v_newL (line9 (by show 2 ≤ 10000; decide)) fun l1 H11 n11 c11 h11 => ?_
      walk_at "vs"
      refine v_newT (line9 (by show 1 ≤ 10000; decide)) fun u2 H12 n12 c12 h12 => ?_
      walk_at "vs"
      have k12 := (((((((c4.trans c5).trans c6).trans c7).trans c8).trans c9).trans c10).trans c11).trans c12
      refine ⟨p, z, 0, rfl, k12.at hp3, hb, by omega, ?_⟩
      walk_at "vs"
      refine v_newT (line9 (by show 0 ≤ 10000; decide)) fun u3 H13 n13 c13 h13 => ?_
      walk_at "vs"
      refine v_newT (line9 (by show 4 ≤ 10000; decide)) fun u4 H14 n14 c14 h14 => ?_
      walk_at "vs"
      refine v_newL (line9 (by show 1 ≤ 10000; decide)) fun l2 H15 n15 c15 h15 => ?_
      walk_at "vs"
      have k16_11 := (((c12.trans c13).trans c14).trans c15)
      refine v_add_ll (k16_11.at h11) h15 (line9 (by show 3 ≤ 10000; decide)) fun l3 H16 n16 c16 h16 => ?_
      walk_at "vs"
      have k11_16 := (((((c11.trans c12).trans c13).trans c14).trans c15).trans c16)
      have k7_16 := (((c8.trans c9).trans c10).trans k11_16)
      have k5_16 := ((c6.trans c7).trans k7_16)
      have k16 := ((c4.trans c5).trans k5_16)
      have hu16 := hu.on k16
      have hrow : ∃ v, atI ([V.ref t6, V.ref u1] ++ [V.ref u4]) ((0 + (i : Int)) % 3) = some v ∧ Rp H16 v (rwZ z (i + 1)).d := by
        have hi3 : i % 3 = 0 ∨ i % 3 = 1 ∨ i % 3 = 2 := by omega
        rcases hi3 with g3 | g3 | g3
        · have e : (0 + (i : Int)) % 3 = 0 := by omega
          refine ⟨.ref t6, by rw [e]; rfl, ?_⟩
          unfold rwZ
          rw [if_pos g3]
          exact .tup ((c7.trans k7_16).tup h6) (.cons (.str (by decide +kernel)) (.cons (.tup ((c5.trans k5_16).tup h4) (.cons (.str (by decide +kernel)) (.one (.int 0)))) (.one (.tup (k5_16.tup h5) (.one hu16)))))
        · have e : (0 + (i : Int)) % 3 = 1 := by omega
          refine ⟨.ref u1, by rw [e]; rfl, ?_⟩
          unfold rwZ
          rw [if_neg (by omega), if_pos g3]
          exact .tup (k11_16.tup h10) (.cons (.str (by decide +kernel)) (.cons (.tup (k7_16.tup h7) (.cons (.str (by decide +kernel)) (.one (.int 1)))) (.cons (.tup (((c9.trans c10).trans k11_16).tup h8) .nil) (.one (.tup ((c10.trans k11_16).tup h9) (.one hu16))))))
        · have e : (0 + (i : Int)) % 3 = 2 := by omega
          refine ⟨.ref u4, by rw [e]; rfl, ?_⟩
          unfold rwZ
          rw [if_neg (by omega), if_neg (by omega)]
          exact .tup ((c15.trans c16).tup h14) (.cons (.str (by decide +kernel)) (.cons (.tup ((((c13.trans c14).trans c15).trans c16).tup h12) (.one hu16)) (.cons (.str (nmZ_ok hb (by omega))) (.one (.tup (((c14.trans c15).trans c16).tup h13) .nil)))))
      obtain ⟨w, hw, hrw⟩ := hrow
      refine v_ix_l (SqL.of h16) hw ?_
      walk_at "vs"
      exact ⟨_, _, w, rfl, c3.trans k16, hrw⟩
    rintro σ H3 ⟨v2, v3, u, rfl, c3, hu⟩
    walk_at "vs"
    refine q u H3 ((c1.trans c2).trans c3) ?_
    have e : ((z.row : Int) - 1).toNat = z.row - 1 := by omega
    rw [e] at hu
    exact hu
abbrev s__law_parts : Stmt := topS 65
theorem sc__law_parts : FnScope ["_law_sizes_here", "_law_boxes", "_law_k", "_law_lists", "_law_names", "_law_functions", "_law_name_here", "_law_rows", "_law_values", "_law_many"] ["_law_sizes_here"] (defScope s__law_parts) := ⟨rfl, rfl, rfl, by decide +kernel, rfl, by decide +kernel, by decide +kernel⟩
theorem ok__law_parts (T : Txt K mg) (D : DefAt K mg "_law_parts" s__law_parts) (O__law_name : Own P w K mg base "_law_name" 1 ["_law_sizes_here", "_law_k"] (sp_lnm)) (O__law_row : Own P w K mg base "_law_row" 2 ["_law_sizes_here"] (sp_lrw)) : Own P w K mg base "_law_parts" 3 ["_law_sizes_here"] (sp_lparts) := by
  refine own_of D (fun _ _ _ _ _ _ us hl => match us, hl with | [_], _ => rfl) (fnW_of (N := ["_law_sizes_here", "_law_boxes", "_law_k", "_law_lists", "_law_names", "_law_functions", "_law_name_here", "_law_rows", "_law_values", "_law_many"]) sc__law_parts (fun vs H Q E h => ?_) (fun f cdv A outer s H vs Q E hr h => ?_))
  · obtain ⟨p, z, rfl, _⟩ := h; rfl
  · have nd := sc__law_parts.nd
    have hu := L2H.roomH_of hr
    have TK : L2N.Takes (cxOf (L2N.CX P w) P w K mg base ["_law_sizes_here", "_law_boxes", "_law_k", "_law_lists", "_law_names", "_law_functions", "_law_name_here", "_law_rows", "_law_values", "_law_many"] "_law_parts" (defScope s__law_parts) f cdv A outer s H E) (fun cls d _ H => E cls d H) := L2N.takes_of rfl rfl rfl rfl
    refine ⟨_, (pss_cons (ps_set (i := 1) nd rfl (by first | exact Or.inl rfl | exact Or.inr rfl) (pe_callTy (call_utuple (K := K)) (by rfl) T.n_tuple (by decide +kernel) (pa_cons (pe_lc (own := [("_law_k", 2)]) rfl nd (pi_range1 rfl T.n_range (pa_cons (pe_ix (ix_u (K := K) hu) (pv 0) pe_str (fun _ _ => rfl)) pa_nil)) (blkOk_by (N := ["_law_sizes_here", "_law_boxes", "_law_k", "_law_lists", "_law_names", "_law_functions", "_law_name_here", "_law_rows", "_law_values", "_law_many"]) (sc := defScope s__law_parts) (by decide +kernel)) (fun _ _ _ _ _ => (pg_name (i := 2) nd rfl (by first | exact Or.inl rfl | exact Or.inr rfl))) (fun _ _ _ _ _ => pts_nil) (fun _ _ _ _ _ => (pe_tup (pa_cons (pe_own O__law_name (by decide) hr rfl passN (pa_cons (pv 0) (pa_cons (pv 2) pa_nil))) (pa_cons (pe_ix (ix_u (K := K) hu) (pv 0) pe_str (fun _ _ => rfl)) pa_nil))))) pa_nil)))
      (pss_cons (ps_set (i := 3) nd rfl (by first | exact Or.inl rfl | exact Or.inr rfl) (pe_callTy (call_utuple (K := K)) (by rfl) T.n_tuple (by decide +kernel) (pa_cons (pe_lc (own := [("_law_k", 2)]) rfl nd (pi_range1 rfl T.n_range (pa_cons (pe_ix (ix_u (K := K) hu) (pv 0) pe_str (fun _ _ => rfl)) pa_nil)) (blkOk_by (N := ["_law_sizes_here", "_law_boxes", "_law_k", "_law_lists", "_law_names", "_law_functions", "_law_name_here", "_law_rows", "_law_values", "_law_many"]) (sc := defScope s__law_parts) (by decide +kernel)) (fun _ _ _ _ _ => (pg_name (i := 2) nd rfl (by first | exact Or.inl rfl | exact Or.inr rfl))) (fun _ _ _ _ _ => pts_nil) (fun _ _ _ _ _ => (pe_tup (pa_cons (pe_own O__law_name (by decide) hr rfl passN (pa_cons (pv 0) (pa_cons (pe_op (op_uadd (K := K)) pe_int (pv 2)) pa_nil))) (pa_cons (pe_op (op_umulT (K := K)) (pe_tup (pa_cons pe_int pa_nil)) (pe_ix (ix_u (K := K) hu) (pv 0) pe_str (fun _ _ => rfl))) pa_nil))))) pa_nil)))
      (pss_cons (ps_set (i := 4) nd rfl (by first | exact Or.inl rfl | exact Or.inr rfl) (pe_callTy (call_utuple (K := K)) (by rfl) T.n_tuple (by decide +kernel) (pa_cons (pe_lc (own := [("_law_k", 2)]) rfl nd (pi_range1 rfl T.n_range (pa_cons (pe_op (op_umulT (K := K)) pe_int (pe_ix (ix_u (K := K) hu) (pv 0) pe_str (fun _ _ => rfl))) pa_nil)) (blkOk_by (N := ["_law_sizes_here", "_law_boxes", "_law_k", "_law_lists", "_law_names", "_law_functions", "_law_name_here", "_law_rows", "_law_values", "_law_many"]) (sc := defScope s__law_parts) (by decide +kernel)) (fun _ _ _ _ _ => (pg_name (i := 2) nd rfl (by first | exact Or.inl rfl | exact Or.inr rfl))) (fun _ _ _ _ _ => pts_nil) (fun _ _ _ _ _ => (pe_op (op_uadd (K := K)) pe_str (pe_ix (ix_u (K := K) hu) pe_str (pv 2) (fun _ _ => rfl))))) pa_nil)))
      (pss_cons (ps_set (i := 5) nd rfl (by first | exact Or.inl rfl | exact Or.inr rfl) (pe_tup pa_nil))
      (pss_cons (ps_for (passes_of rfl) rfl (pi_range1 rfl T.n_range (pa_cons (pe_ix (ix_u (K := K) hu) (pv 0) pe_str (fun _ _ => rfl)) pa_nil)) (pg_name (i := 2) nd rfl (by first | exact Or.inl rfl | exact Or.inr rfl))
      (pss_cons (ps_set (i := 6) nd rfl (by first | exact Or.inl rfl | exact Or.inr rfl) (pe_op (op_uadd (K := K)) pe_str (pe_ix (ix_u (K := K) hu) pe_str (pv 2) (fun _ _ => rfl))))
      (pss_one (ps_set (i := 5) nd rfl (by first | exact Or.inl rfl | exact Or.inr rfl) (pe_op (op_uadd (K := K)) (pv 5) (pe_tup (pa_cons (pe_tup (pa_cons (pv 6) (pa_cons (pe_slice (sl_u (K := K)) (pv 4) po_none (po_some (pe_ix (ix_u (K := K) hu) (pv 0) pe_str (fun _ _ => rfl)))) (pa_cons (pe_slice (sl_u (K := K)) (pv 4) (po_some (pe_ix (ix_u (K := K) hu) (pv 0) pe_str (fun _ _ => rfl))) po_none) (pa_cons (pe_tup pa_nil) pa_nil))))) pa_nil)))))))
      (pss_cons (ps_set (i := 7) nd rfl (by first | exact Or.inl rfl | exact Or.inr rfl) (pe_tup (pa_cons (pe_own O__law_row (by decide) hr rfl (fun σ => L2N.passAt TK σ) (pa_cons (pv 0) pa_nil)) pa_nil)))
      (pss_cons (ps_for (passes_of rfl) rfl (pi_range1 rfl T.n_range (pa_cons (pe_ix (ix_u (K := K) hu) (pv 0) pe_str (fun _ _ => rfl)) pa_nil)) (pg_name (i := 2) nd rfl (by first | exact Or.inl rfl | exact Or.inr rfl))
      (pss_cons (ps_set (i := 8) nd rfl (by first | exact Or.inl rfl | exact Or.inr rfl) (pe_op (op_umulT (K := K)) (pe_tup (pa_cons (pe_tup (pa_cons pe_str (pa_cons pe_int pa_nil))) pa_nil)) (pe_ix (ix_u (K := K) hu) (pv 0) pe_str (fun _ _ => rfl))))
      (pss_one (ps_set (i := 7) nd rfl (by first | exact Or.inl rfl | exact Or.inr rfl) (pe_op (op_uadd (K := K)) (pv 7) (pe_tup (pa_cons (pe_tup (pa_cons pe_str (pa_cons (pe_own O__law_name (by decide) hr rfl (fun σ => L2N.passAt TK σ) (pa_cons (pv 0) (pa_cons pe_int pa_nil))) (pa_cons (pe_op (op_uadd (K := K)) pe_str (pe_ix (ix_u (K := K) hu) pe_str (pv 2) (fun _ _ => rfl))) (pa_cons (pv 8) pa_nil))))) pa_nil)))))))
      (pss_cons (ps_set (i := 9) nd rfl (by first | exact Or.inl rfl | exact Or.inr rfl) (pe_op (op_uadd (K := K)) (pe_op (op_umulT (K := K)) pe_int (pe_ix (ix_u (K := K) hu) (pv 0) pe_str (fun _ _ => rfl))) (pe_ix (ix_u (K := K) hu) (pv 0) pe_str (fun _ _ => rfl))))
      (pss_one (ps_ret (pe_tup (pa_cons (pv 1) (pa_cons (pv 3) (pa_cons (pv 5) (pa_cons (pe_op (op_uadd (K := K)) (pv 7) (pe_op (op_umulT (K := K)) (pe_tup (pa_cons (pe_tup (pa_cons pe_str (pa_cons (pe_tup (pa_cons pe_str (pa_cons pe_int pa_nil))) pa_nil))) pa_nil)) (pe_op op_sub (pe_ix (ix_u (K := K) hu) (pv 0) pe_str (fun _ _ => rfl)) (pv 9)))) pa_nil))))))))))))))), ?_⟩
    clear nd
    obtain ⟨p, z, rfl, hp, hb, q⟩ := h
    have B := bd_all hb
    walk_at "vs"
    refine v_ix_d (v := .int z.box) (DGet.k (k := .inr (Str.ofString "box")) hp) ?_
    walk_at "vs"
    refine v_rng1' (by omega) (by omega) ?_
    refine v_lc_range [] (fun i acc H' => RpA H' acc (((List.range i).map fun k => (nmZ z k, (z.num : Int))).map bxD)) (by simp) (fun H' c => .nil) ?_ ?_
    · rintro D i acc H1 hi nD dS c1 hDl hacc
      have hp1 := c1.at hp
      walk_at "vs"
      refine ⟨rfl, ?_⟩
      walk_at "vs"
      refine ⟨p, z, i, by rw [Int.zero_add], hp1, hb, by omega, ?_⟩
      walk_at "vs"
      refine v_ix_d (v := .int z.num) (DGet.k (k := .inr (Str.ofString "number")) hp1) ?_
      walk_at "vs"
      refine v_newT (line9 (by show 2 ≤ 10000; decide)) fun t2 H2 n2 c2 h2 => ?_
      walk_at "vs"
      have hal : acc.length = i := by rw [hacc.length]; simp
      refine v_lcA c1 hDl nD dS c2 (line9' (by omega)) fun H3 c3 => ?_
      show RpA _ _ _
      rw [List.range_succ, List.map_append, List.map_append]
      exact ((hacc.on c2).on c3).snoc (.tup (c3.tup h2) (.cons (.str (nmZ_ok hb (by omega))) (.one (.int _))))
    rintro D1 bxs H1 c1 nD1 hD1 hbx
    walk_at "vs"
    refine v_tuple_l (SqL.of hD1) fun t1 H2 n2 c2 h2 => ?_
    have hbx2 := hbx.on c2
    have k2 := c1.trans c2
    have hp2 := k2.at hp
    walk_at "vs"
    refine v_ix_d (v := .int z.lst) (DGet.k (k := .inr (Str.ofString "list")) hp2) ?_
    walk_at "vs"
    refine v_rng1' (by omega) (by omega) ?_
    refine v_lc_range [] (fun i acc H' => RpA H' acc (((List.range i).map fun k => (nmZ z (7 + k), List.replicate z.thg (1 : Int))).map lsD)) (by simp) (fun H' c => .nil) ?_ ?_
    · rintro D i acc H3 hi nD dS c3 hDl hacc
      have hp3 := c3.at hp2
      walk_at "vs"
      refine ⟨rfl, ?_⟩
      walk_at "vs"
      refine ⟨p, z, 7 + i, by rw [show (7 + (0 + (i : Int))) = ((7 + i : Nat) : Int) by omega], hp3, hb, by omega, ?_⟩
      walk_at "vs"
      refine v_newT (line9 (by show 1 ≤ 10000; decide)) fun t4 H4 n4 c4 h4 => ?_
      walk_at "vs"
      refine v_ix_d (v := .int z.thg) (DGet.k (k := .inr (Str.ofString "thing")) (c4.at hp3)) ?_
      walk_at "vs"
      refine v_mulT_t h4 (by omega) (by omega) fun t5 H5 c5 h5 => ?_
      walk_at "vs"
      refine v_newT (line9 (by show 2 ≤ 10000; decide)) fun t6 H6 n6 c6 h6 => ?_
      have hal : acc.length = i := by rw [hacc.length]; simp
      have k6 := (c4.trans c5).trans c6
      refine v_lcA c3 hDl nD dS k6 (line9' (by omega)) fun H7 c7 => ?_
      show RpA _ _ _
      rw [List.range_succ, List.map_append, List.map_append]
      refine ((hacc.on k6).on c7).snoc (.tup (c7.tup h6) (.cons (.str (nmZ_ok hb (by omega))) (.one (.tup (c7.tup (c6.tup h5)) ?_))))
      rw [List.map_replicate]
      exact rpa_rep (.int 1)
    rintro D2 lss H3 c3 nD2 hD2 hls
    walk_at "vs"
    refine v_tuple_l (SqL.of hD2) fun t2 H4 n4 c4 h4 => ?_
    have k4 := (k2.trans c3).trans c4
    have hp4 := k4.at hp
    walk_at "vs"
    refine v_ix_d (v := .int z.nam) (DGet.k (k := .inr (Str.ofString "name")) hp4) ?_
    walk_at "vs"
    refine v_mulT_ii (.inl (by decide)) ?_
    walk_at "vs"
    refine v_rng1' (by omega) (by omega) ?_
    refine v_lc_range [] (fun i acc H' => acc = ((List.range i).map fun k => Str.ofString "p" ++ ltr k).map V.str) (by simp) (fun H' c => rfl) ?_ ?_
    · rintro D i acc H5 hi nD dS c5 hDl rfl
      have hi12 : i < 12 := by omega
      walk_at "vs"
      refine ⟨rfl, ?_⟩
      walk_at "vs"
      refine v_ix_s (c := 97 + i) (by show 12 ≤ sizeLine; exact line9 (by show 12 ≤ 10000; decide)) (by rw [Int.zero_add]; exact abc12 hi12) ?_
      walk_at "vs"
      refine v_add_ss (by show 2 ≤ sizeLine; exact line9 (by show 2 ≤ 10000; decide)) ?_
      refine v_lcA c5 hDl nD dS .refl (line9' (by simp; omega)) fun H6 c6 => ?_
      show _ = _
      rw [List.range_succ, List.map_append, List.map_append]
      rfl
    rintro D3 _ H5 c5 nD3 hD3 rfl
    walk_at "vs"
    refine v_tuple_l (SqL.of hD3) fun t3 H6 n6 c6 h6 => ?_
    rw [show (2 * (z.nam : Int)).toNat = 2 * z.nam by omega] at h6
    have k6 := (k4.trans c5).trans c6
    have hp6 := k6.at hp
    walk_at "vs"
    refine v_newT (line9 (by show 0 ≤ 10000; decide)) fun f0 H7 n7 c7 h7 => ?_
    have hp7 := c7.at hp6
    walk_at "vs"
    refine v_ix_d (v := .int z.fn) (DGet.k (k := .inr (Str.ofString "function")) hp7) ?_
    walk_at "vs"
    refine v_rng1' (by omega) (by omega) ?_
    refine v_for_range (fun i σ H' => ∃ (v2 v6 : Option V) (f : Addr) (xs : List V), σ = [some (.ref p), some (.ref t1), v2, some (.ref t2), some (.ref t3), some (.ref f), v6, none, none, none] ∧ Chg [] H7 H' ∧ H' f = some (.tup xs) ∧ RpA H' xs (((List.range i).map (fnZ z)).map fnD))
      ⟨none, none, f0, [], rfl, .refl, h7, .nil⟩ ?_ ?_
    · rintro i σ H8 hi ⟨v2, v6, f, xs, rfl, c8, hf, hx⟩
      have hi8 : i < 8 := by omega
      have hp8 := c8.at hp7
      walk_at "vs"
      refine v_ix_s (c := 97 + i) (by show 8 ≤ sizeLine; exact line9 (by show 8 ≤ 10000; decide)) (by rw [Int.zero_add]; exact abc8 hi8) ?_
      walk_at "vs"
      refine v_add_ss (by show 2 ≤ sizeLine; exact line9 (by show 2 ≤ 10000; decide)) ?_
      walk_at "vs"
      refine v_ix_d (v := .int z.nam) (DGet.k (k := .inr (Str.ofString "name")) hp8) ?_
      walk_at "vs"
      refine v_sl_t ((c7.trans c8).tup h6) fun q1 H9 c9 h9 => ?_
      walk_at "vs"
      refine v_ix_d (v := .int z.nam) (DGet.k (k := .inr (Str.ofString "name")) (c9.at hp8)) ?_
      walk_at "vs"
      refine v_sl_t (((c7.trans c8).trans c9).tup h6) fun q2 H10 c10 h10 => ?_
      walk_at "vs"
      refine v_newT (line9 (by show 0 ≤ 10000; decide)) fun e1 H11 n11 c11 h11 => ?_
      walk_at "vs"
      refine v_newT (line9 (by show 4 ≤ 10000; decide)) fun e2 H12 n12 c12 h12 => ?_
      walk_at "vs"
      refine v_newT (line9 (by show 1 ≤ 10000; decide)) fun e3 H13 n13 c13 h13 => ?_
      have k13 := (((c9.trans c10).trans c11).trans c12).trans c13
      have hxl : xs.length = i := by rw [hx.length]; simp
      walk_at "vs"
      refine v_add_tt (k13.tup hf) h13 (line9 (by rw [hxl]; show i + 1 ≤ 10000; omega)) fun e4 H14 c14 h14 => ?_
      walk_at "vs"
      refine ⟨_, _, e4, _, rfl, c8.trans (k13.trans c14), h14, ?_⟩
      rw [List.range_succ, List.map_append, List.map_append]
      have hn := (nms_rp (H := H14) hb)
      have hn1 := hn.cut none (some (z.nam : Int))
      have hn2 := hn.cut (some (z.nam : Int)) none
      rw [cutL_pre _ (by omega), List.length_map, nms_len, Int.toNat_natCast, show min z.nam (2 * z.nam) = z.nam by omega, ← List.map_take] at hn1
      rw [cutL_post, ← List.map_drop] at hn2
      exact (hx.on (k13.trans c14)).snoc (.tup ((c13.trans c14).tup h12) (.cons (.str (fk_ok hi8)) (.cons (.tup (((((c10.trans c11).trans c12).trans c13).trans c14).tup h9) hn1) (.cons (.tup ((((c11.trans c12).trans c13).trans c14).tup h10) hn2) (.one (.tup (((c12.trans c13).trans c14).tup h11) .nil))))))
    rintro σ H15 ⟨v2, v6, f, fxs, rfl, c15, hf, hfx⟩
    have k15 := (k6.trans c7).trans c15
    walk_at "vs"
    refine ⟨p, z, rfl, k15.at hp, hb, fun v H16 c16 hv => ?_⟩
    walk_at "vs"
    refine v_newT (line9 (by show 1 ≤ 10000; decide)) fun r0 H17 n17 c17 h17 => ?_
    have k17 := (k15.trans c16).trans c17
    have hp17 := k17.at hp
    walk_at "vs"
    refine v_ix_d (v := .int z.fn) (DGet.k (k := .inr (Str.ofString "function")) hp17) ?_
    walk_at "vs"
    refine v_rng1' (by omega) (by omega) ?_
    refine v_for_range (fun i σ H' => ∃ (v2 v8 : Option V) (r : Addr) (xs : List V), σ = [some (.ref p), some (.ref t1), v2, some (.ref t2), some (.ref t3), some (.ref f), v6, some (.ref r), v8, none] ∧ Chg [] H17 H' ∧ H' r = some (.tup xs) ∧ RpA H' xs (Rw.ds (rwZ z (z.row - 1) :: (List.range i).map (callZ z))))
      ⟨_, _, r0, [v], rfl, .refl, h17, .one (hv.on c17)⟩ ?_ ?_
    · rintro i σ H18 hi ⟨v2', v8, r, xs, rfl, c18, hr, hx⟩
      have hi8 : i < 8 := by omega
      have hp18 := c18.at hp17
      walk_at "vs"
      refine v_newT (line9 (by show 2 ≤ 10000; decide)) fun a1 H19 n19 c19 h19 => ?_
      walk_at "vs"
      refine v_newT (line9 (by show 1 ≤ 10000; decide)) fun a2 H20 n20 c20 h20 => ?_
      walk_at "vs"
      refine v_ix_d (v := .int z.nam) (DGet.k (k := .inr (Str.ofString "name")) ((c19.trans c20).at hp18)) ?_
      walk_at "vs"
      refine v_mulT_t h20 (by omega) (by omega) fun a3 H21 c21 h21 => ?_
      have k21 := (c19.trans c20).trans c21
      walk_at "vs"
      refine ⟨p, z, 0, rfl, k21.at hp18, hb, by omega, ?_⟩
      walk_at "vs"
      refine v_ix_s (c := 97 + i) (by show 8 ≤ sizeLine; exact line9 (by show 8 ≤ 10000; decide)) (by rw [Int.zero_add]; exact abc8 hi8) ?_
      walk_at "vs"
      refine v_add_ss (by show 2 ≤ sizeLine; exact line9 (by show 2 ≤ 10000; decide)) ?_
      walk_at "vs"
      refine v_newT (line9 (by show 4 ≤ 10000; decide)) fun a4 H22 n22 c22 h22 => ?_
      walk_at "vs"
      refine v_newT (line9 (by show 1 ≤ 10000; decide)) fun a5 H23 n23 c23 h23 => ?_
      have k23 := (k21.trans c22).trans c23
      have hxl : xs.length = i + 1 := by rw [hx.length, ds_len, List.length_cons, List.length_map, List.length_range]
      walk_at "vs"
      refine v_add_tt (k23.tup hr) h23 (line9 (by rw [hxl]; show i + 1 + 1 ≤ 10000; omega)) fun a6 H24 c24 h24 => ?_
      walk_at "vs"
      refine ⟨_, _, a6, _, rfl, c18.trans (k23.trans c24), h24, ?_⟩
      rw [List.range_succ, List.map_append, ← List.cons_append, ds_app]
      refine (hx.on (k23.trans c24)).snoc (.tup ((c23.trans c24).tup h22) (.cons (.str (by decide +kernel)) (.cons (.str (nmZ_ok hb (by omega))) (.cons (.str (fk_ok hi8)) (.one (.tup (((c22.trans c23).trans c24).tup h21) ?_))))))
      rw [List.map_replicate]
      exact rpa_rep (.tup ((((c20.trans c21).trans (c22.trans c23)).trans c24).tup h19) (.cons (.str (by decide +kernel)) (.one (.int 1))))
    rintro σ H25 ⟨v2', v8, r, rxs, rfl, c25, hr, hrx⟩
    have k25 := k17.trans c25
    have hp25 := k25.at hp
    walk_at "vs"
    refine v_ix_d (v := .int z.fn) (DGet.k (k := .inr (Str.ofString "function")) hp25) ?_
    walk_at "vs"
    refine v_mulT_ii (.inl (by decide)) ?_
    walk_at "vs"
    refine v_ix_d (v := .int z.row) (DGet.k (k := .inr (Str.ofString "row")) hp25) ?_
    walk_at "vs"
    refine v_newT (line9 (by show 2 ≤ 10000; decide)) fun b1 H26 n26 c26 h26 => ?_
    walk_at "vs"
    refine v_newT (line9 (by show 2 ≤ 10000; decide)) fun b2 H27 n27 c27 h27 => ?_
    walk_at "vs"
    refine v_newT (line9 (by show 1 ≤ 10000; decide)) fun b3 H28 n28 c28 h28 => ?_
    have k28 := (c26.trans c27).trans c28
    walk_at "vs"
    refine v_ix_d (v := .int z.rws) (DGet.k (k := .inr (Str.ofString "rows")) (k28.at hp25)) ?_
    walk_at "vs"
    rw [show (z.rws : Int) - (2 * (z.fn : Int) + z.row) = ((z.rws - (2 * z.fn + z.row) : Nat) : Int) by omega]
    refine v_mulT_t h28 (by omega) (by omega) fun b4 H29 c29 h29 => ?_
    have hrl : rxs.length = z.fn + 1 := by rw [hrx.length, ds_len, List.length_cons, List.length_map, List.length_range]; omega
    walk_at "vs"
    refine v_add_tt ((k28.trans c29).tup hr) h29 (line9 (by rw [hrl, List.length_replicate]; omega)) fun b5 H30 c30 h30 => ?_
    walk_at "vs"
    refine v_newT (line9 (by show 4 ≤ 10000; decide)) fun b6 H31 n31 c31 h31 => ?_
    walk_at "vs"
    have k31 := ((k28.trans c29).trans c30).trans c31
    refine q (.ref b6) H31 (k25.trans k31) ?_
    rw [Int.toNat_natCast] at hbx2 hls hfx hrx
    have kf := (((c16.trans c17).trans c25).trans k31)
    have k2_31 : Chg [] H2 H31 := (((((c3.trans c4).trans (c5.trans c6)).trans c7).trans c15).trans kf)
    refine .tup h31 (.cons (.tup (k2_31.tup h2) (hbx2.on k2_31)) (.cons (.tup (((((c5.trans c6).trans c7).trans c15).trans kf).tup h4) (hls.on ((((c4.trans (c5.trans c6)).trans c7).trans c15).trans kf))) (.cons (.tup (kf.tup hf) (hfx.on kf)) (.one (.tup (c31.tup h30) ?_)))))
    show RpA _ _ (Rw.ds ((rwZ z (z.row - 1) :: (List.range z.fn).map (callZ z)) ++ List.replicate (z.rws - (2 * z.fn + z.row)) (.tell (.num 1))))
    rw [ds_app]
    refine (hrx.on k31).app ?_
    rw [ds_rep]
    exact rpa_rep (.tup ((((c28.trans c29).trans c30).trans c31).tup h27) (.cons (.str (by decide +kernel)) (.one (.tup ((((c27.trans c28).trans c29).trans (c30.trans c31)).tup h26) (.cons (.str (by decide +kernel)) (.one (.int 1)))))))
abbrev s__law_due : Stmt := topS 66
theorem sc__law_due : FnScope ["_law_sizes_here"] ["_law_sizes_here"] (defScope s__law_due) := ⟨rfl, rfl, rfl, by decide +kernel, rfl, by decide +kernel, by decide +kernel⟩
theorem ok__law_due (T : Txt K mg) (D : DefAt K mg "_law_due" s__law_due) : Own P w K mg base "_law_due" 1 ["_law_sizes_here"] (sp_ldue) := by
  refine own_of D (fun _ _ _ _ _ _ us hl => match us, hl with | [_], _ => rfl) (fnW_of (N := ["_law_sizes_here"]) sc__law_due (fun vs H Q E h => ?_) (fun f cdv A outer s H vs Q E hr h => ?_))
  · obtain ⟨p, z, rfl, _⟩ := h; rfl
  · have nd := sc__law_due.nd
    have hu := L2H.roomH_of hr
    refine ⟨_, (pss_cons (ps_if (PW.pt (pw_or (pt_cmpR op_gt (pe_ix (ix_u (K := K) hu) (pv 0) pe_str (fun _ _ => rfl)) pe_int (nomark _)) (pw_or (pt_cmpR op_gt (pe_ix (ix_u (K := K) hu) (pv 0) pe_str (fun _ _ => rfl)) pe_int (nomark _)) (pw_or1 (pt_cmpR op_gt (pe_ix (ix_u (K := K) hu) (pv 0) pe_str (fun _ _ => rfl)) pe_int (nomark _))))))
      (pss_one (ps_ret pe_str)) pss_nil)
      (pss_cons (ps_if (PW.pt (pw_or (pt_cmpR op_gt (pe_ix (ix_u (K := K) hu) (pv 0) pe_str (fun _ _ => rfl)) pe_int (nomark _)) (pw_or1 (pt_cmpR op_gt (pe_ix (ix_u (K := K) hu) (pv 0) pe_str (fun _ _ => rfl)) pe_int (nomark _)))))
      (pss_one (ps_ret pe_str)) pss_nil)
      (pss_cons (ps_if (PW.pt (pw_or (pt_cmpR op_gt (pe_ix (ix_u (K := K) hu) (pv 0) pe_str (fun _ _ => rfl)) pe_int (nomark _)) (pw_or1 (pt_cmpR op_gt (pe_ix (ix_u (K := K) hu) (pv 0) pe_str (fun _ _ => rfl)) pe_int (nomark _)))))
      (pss_one (ps_ret pe_str)) pss_nil)
      (pss_cons (ps_if (PW.pt (pw_or (pt_cmpR op_gt (pe_ix (ix_u (K := K) hu) (pv 0) pe_str (fun _ _ => rfl)) pe_int (nomark _)) (pw_or1 (pt_cmpR op_gt (pe_ix (ix_u (K := K) hu) (pv 0) pe_str (fun _ _ => rfl)) pe_int (nomark _)))))
      (pss_one (ps_ret pe_str)) pss_nil)
      (pss_one (ps_ret (pe_ix (ix_u (K := K) hu) (pe_lst (pa_cons pe_str (pa_cons pe_str pa_nil))) (pe_callTy call_uint1 (by rfl) T.n_int (by decide +kernel) (pa_cons (pe_cmpR op_gt (pe_ix (ix_u (K := K) hu) (pv 0) pe_str (fun _ _ => rfl)) pe_int (nomark _)) pa_nil)) (fun _ _ => rfl)))))))), ?_⟩
    clear nd
    obtain ⟨p, z, rfl, hp, hb, q⟩ := h
    walk_at "vs"
    refine v_ix_d (v := .int z.box) (DGet.k (k := .inr (Str.ofString "box")) hp) ?_
    walk_at "vs"
    refine v_iteD (fun h_box => ?_) (fun h_box => ?_)
    · walk_at "vs"
      have := q H .refl
      rw [dueP (by omega)] at this
      exact this
    walk_at "vs"
    refine v_ix_d (v := .int z.lst) (DGet.k (k := .inr (Str.ofString "list")) hp) ?_
    walk_at "vs"
    refine v_iteD (fun h_lst => ?_) (fun h_lst => ?_)
    · walk_at "vs"
      have := q H .refl
      rw [dueP (by omega)] at this
      exact this
    walk_at "vs"
    refine v_ix_d (v := .int z.thg) (DGet.k (k := .inr (Str.ofString "thing")) hp) ?_
    walk_at "vs"
    refine v_iteD (fun h_thg => ?_) (fun h_thg => ?_)
    · walk_at "vs"
      have := q H .refl
      rw [dueP (by omega)] at this
      exact this
    walk_at "vs"
    refine v_ix_d (v := .int z.fn) (DGet.k (k := .inr (Str.ofString "function")) hp) ?_
    walk_at "vs"
    refine v_iteD (fun h_fn => ?_) (fun h_fn => ?_)
    · walk_at "vs"
      have := q H .refl
      rw [dueP (by omega)] at this
      exact this
    walk_at "vs"
    refine v_ix_d (v := .int z.nam) (DGet.k (k := .inr (Str.ofString "name")) hp) ?_
    walk_at "vs"
    refine v_iteD (fun h_nam => ?_) (fun h_nam => ?_)
    · walk_at "vs"
      have := q H .refl
      rw [dueP (by omega)] at this
      exact this
    walk_at "vs"
    refine v_ix_d (v := .int z.sgn) (DGet.k (k := .inr (Str.ofString "sign")) hp) ?_
    walk_at "vs"
    refine v_iteD (fun h_sgn => ?_) (fun h_sgn => ?_)
    · walk_at "vs"
      have := q H .refl
      rw [dueP (by omega)] at this
      exact this
    walk_at "vs"
    refine v_ix_d (v := .int z.num) (DGet.k (k := .inr (Str.ofString "number")) hp) ?_
    walk_at "vs"
    refine v_iteD (fun h_num => ?_) (fun h_num => ?_)
    · walk_at "vs"
      have := q H .refl
      rw [dueP (by omega)] at this
      exact this
    walk_at "vs"
    refine v_ix_d (v := .int z.dep) (DGet.k (k := .inr (Str.ofString "deep")) hp) ?_
    walk_at "vs"
    refine v_iteD (fun h_dep => ?_) (fun h_dep => ?_)
    · walk_at "vs"
      have := q H .refl
      rw [dueR (by omega) (by omega)] at this
      exact this
    walk_at "vs"
    refine v_ix_d (v := .int z.row) (DGet.k (k := .inr (Str.ofString "row")) hp) ?_
    walk_at "vs"
    refine v_iteD (fun h_row => ?_) (fun h_row => ?_)
    · walk_at "vs"
      have := q H .refl
      rw [dueR (by omega) (by omega)] at this
      exact this
    walk_at "vs"
    refine v_newL (line9 (by show 2 ≤ 10000; decide)) fun l1 H1 n1 c1 h1 => ?_
    walk_at "vs"
    refine v_ix_d (v := .int z.rws) (DGet.k (k := .inr (Str.ofString "rows")) (c1.at hp)) ?_
    walk_at "vs"
    have hq := q H1 c1
    rw [dueE (by omega) (by omega)] at hq
    by_cases h60 : 60 < z.rws
    · rw [if_pos h60] at hq
      refine v_ix_l (v := .str "long") (SqL.of h1) (by rw [decide_eq_true (show (60 : Int) < z.rws by omega)]; rfl) ?_
      exact hq
    · rw [if_neg h60] at hq
      refine v_ix_l (v := .str "") (SqL.of h1) (by rw [decide_eq_false (show ¬ (60 : Int) < z.rws by omega)]; rfl) ?_
      exact hq
abbrev s_law : Stmt := topS 67
theorem sc_law : FnScope ["_law_script", "_law_sizes_here", "_law_parts_here", "_law_due_here", "_law_found", "_law_e"] ["_law_script"] (defScope s_law) := ⟨rfl, rfl, rfl, by decide +kernel, rfl, by decide +kernel, by decide +kernel⟩
theorem bw_law : BindW s_law "law" ["_law_script"] := (fun _ _ _ _ _ _ us hl => match us, hl with | [_], _ => rfl)
theorem ok_law (T : Txt K mg) (O__law_sizes : Own P w K mg base "_law_sizes" 2 ["_law_script"] (sp_sizes K)) (O__law_parts : Own P w K mg base "_law_parts" 3 ["_law_sizes_here"] (sp_lparts)) (O__law_due : Own P w K mg base "_law_due" 1 ["_law_sizes_here"] (sp_ldue)) (O_rows_of : Own P w K mg base "rows_of" 10 ["program"] (sp_rowsof)) (O_program_of : Own P w K mg base "program_of" 26 ["boxes", "lists", "functions", "rows"] (sp_progof T.x_NoProgram.C T.x_NoRow.C T.x_TooLong.C)) (O__law_class : OwnP P w K mg base "_law_class" 1 ["_law_e"] (sp_cls3 T.x_NoProgram.C T.x_NoRow.C T.x_TooLong.C)) : FnW P w K mg base "law" s_law 27 ["_law_script"] (sp_law K) := by
  refine fnW_of (N := ["_law_script", "_law_sizes_here", "_law_parts_here", "_law_due_here", "_law_found", "_law_e"]) sc_law (fun vs H Q E h => ?_) (fun f cdv A outer s H vs Q E hr h => ?_)
  · obtain ⟨a, ns, rfl, _⟩ := h; rfl
  · have nd := sc_law.nd
    have hu := L2H.roomH_of hr
    have TK : L2N.Takes (cxOf (L2N.CX P w) P w K mg base ["_law_script", "_law_sizes_here", "_law_parts_here", "_law_due_here", "_law_found", "_law_e"] "law" (defScope s_law) f cdv A outer s H E) (fun cls d _ H => E cls d H) := L2N.takes_of rfl rfl rfl rfl
    refine ⟨_, (pss_cons (ps_set (i := 1) nd rfl (by first | exact Or.inl rfl | exact Or.inr rfl) (pe_own O__law_sizes (by decide) hr rfl (fun σ => L2N.passAt TK σ) (pa_cons (pv 0) pa_nil)))
      (pss_cons (ps_set (i := 2) nd rfl (by first | exact Or.inl rfl | exact Or.inr rfl) (pe_own O__law_parts (by decide) hr rfl (fun σ => L2N.passAt TK σ) (pa_cons (pv 1) pa_nil)))
      (pss_cons (ps_set (i := 3) nd rfl (by first | exact Or.inl rfl | exact Or.inr rfl) (pe_own O__law_due (by decide) hr rfl (fun σ => L2N.passAt TK σ) (pa_cons (pv 1) pa_nil)))
      (pss_cons (ps_tryU (K := K) (i := 5) nd rfl ⟨rfl, by decide, Or.inl (T.x_RunError).g⟩ TK)
      (pss_one (ps_ret (pe_and (pe_cmpR (op_ueq (K := K) hu) (pv 3) pe_str (nomark _)) (pe_and (pe_cmpR (op_ueq (K := K) hu) (pv 4) (pv 2) (nomark _)) (pe_one (pe_cmpR (op_ueq (K := K) hu) (pe_callB (call_ulen (K := K)) (by rfl) T.n_len (by decide +kernel) (pa_cons (pe_own O_rows_of (by decide) hr rfl (fun σ => L2N.passAt TK σ) (pa_cons (pv 4) pa_nil)) pa_nil)) (pe_ix (ix_u (K := K) hu) (pv 1) pe_str (fun _ _ => rfl)) (nomark _))))))))))), ?_⟩
    clear nd
    obtain ⟨a, ns, rfl, hS, hl, q⟩ := h
    walk_at "vs"
    refine ⟨a, ns, rfl, hS, hl, fun p z H1 hz c1 h1 => ?_⟩
    have hb := bdZ_all z hz
    walk_at "vs"
    refine ⟨p, z, rfl, h1, hb, fun v H2 c2 hv => ?_⟩
    walk_at "vs"
    refine ⟨p, z, rfl, c2.at h1, hb, fun H3 c3 => ?_⟩
    have hv3 := hv.on c3
    obtain ⟨b, xs, rfl, hb3, hxs⟩ := hv3.tupI
    obtain ⟨v1, ys1, rfl, r1, hxs1⟩ := hxs.consH
    obtain ⟨v2, ys2, rfl, r2, hxs2⟩ := hxs1.consH
    obtain ⟨v3, ys3, rfl, r3, hxs3⟩ := hxs2.consH
    obtain ⟨v4, ys4, rfl, r4, hxs4⟩ := hxs3.consH
    obtain rfl := hxs4.nilH
    obtain ⟨sh, oP, oR⟩ := okZ_law (okZ_all z hz)
    have shs : shDs [D.tup (List.map bxD (pgZ z).bx), D.tup (List.map lsD (pgZ z).ls), D.tup (List.map fnD (pgZ z).fs), D.tup (Rw.ds (pgZ z).rows)] = true := by
      exact sh
    have q1 : Tq (fun _ => True) H3 v1 _ := rp_tq _ _ (shDs_mem shs List.mem_cons_self) r1
    have q2 : Tq (fun _ => True) H3 v2 _ := rp_tq _ _ (shDs_mem shs (List.mem_cons_of_mem _ List.mem_cons_self)) r2
    have q3 : Tq (fun _ => True) H3 v3 _ := rp_tq _ _ (shDs_mem shs (List.mem_cons_of_mem _ (List.mem_cons_of_mem _ List.mem_cons_self))) r3
    have q4 : Tq (fun _ => True) H3 v4 _ := rp_tq _ _ (shDs_mem shs (List.mem_cons_of_mem _ (List.mem_cons_of_mem _ (List.mem_cons_of_mem _ List.mem_cons_self)))) r4
    walk_at "vs"
    intro pn xe tk hpo
    have nd := sc_law.nd
    refine ⟨_, (pss_one (ps_set (i := 4) nd rfl (by first | exact Or.inl rfl | exact Or.inr rfl) (pe_own O_program_of (by decide) hr rfl (fun σ => L2N.passAt tk σ) (pa_cons (pe_ix (ix_u (K := K) hu) (pv 2) pe_int (fun _ _ => rfl)) (pa_cons (pe_ix (ix_u (K := K) hu) (pv 2) pe_int (fun _ _ => rfl)) (pa_cons (pe_ix (ix_u (K := K) hu) (pv 2) pe_int (fun _ _ => rfl)) (pa_cons (pe_ix (ix_u (K := K) hu) (pv 2) pe_int (fun _ _ => rfl)) pa_nil))))))), ?_⟩
    clear nd
    walk_at "vs"
    refine v_ix_t (v := v1) (SqT.of hb3) rfl ?_
    walk_at "vs"
    refine v_ix_t (v := v2) (SqT.of hb3) rfl ?_
    walk_at "vs"
    refine v_ix_t (v := v3) (SqT.of hb3) rfl ?_
    walk_at "vs"
    refine v_ix_t (v := v4) (SqT.of hb3) rfl ?_
    walk_at "vs"
    refine ⟨v1, v2, v3, v4, _, _, _, _, _, rfl, q1, q2, q3, q4, fun hn H4 c4 => ?_, fun hs => ⟨fun hn H4 c4 => ?_, fun hf => ⟨((oR hs).2 hf).1, fun hn H4 c4 => ?_, fun hn p5 H4 c4 h4 => ?_⟩⟩⟩
    · have due := oP hn
      refine ⟨true, T.exm_NoProgram__RunError, fun _ a na => ?_, fun z => nomatch z⟩
      intro oe pn hz hf
      refine ⟨_, (pss_one (ps_ret (pe_and (pe_cmpR (op_une (K := K) (markH hu)) (pv 3) pe_str (nomark _)) (pe_one (pe_cmpR (op_ueq (K := K) (markH hu)) (pe_ownP (q := (a, oe)) O__law_class (by decide) (markH (L2H.roomH_of hr)) (hot_of hz hf) List.mem_cons_self hz.zc rfl passN (pa_cons (pv 5) pa_nil)) (pv 3) (nomark _)))))), ?_⟩
      walk_at "vs"
      rw [due, if_pos (by decide +kernel)]
      walk_at "vs"
      refine ⟨rfl, rfl, 0, .inl ⟨rfl, rfl⟩, fun H5 c5 => ?_⟩
      walk_at "vs"
      exact q _
    · have due := (oR hs).1 hn
      refine ⟨true, T.exm_NoRow__RunError, fun _ a na => ?_, fun z => nomatch z⟩
      intro oe pn hz hf
      refine ⟨_, (pss_one (ps_ret (pe_and (pe_cmpR (op_une (K := K) (markH hu)) (pv 3) pe_str (nomark _)) (pe_one (pe_cmpR (op_ueq (K := K) (markH hu)) (pe_ownP (q := (a, oe)) O__law_class (by decide) (markH (L2H.roomH_of hr)) (hot_of hz hf) List.mem_cons_self hz.zc rfl passN (pa_cons (pv 5) pa_nil)) (pv 3) (nomark _)))))), ?_⟩
      walk_at "vs"
      rw [due, if_pos (by decide +kernel)]
      walk_at "vs"
      refine ⟨rfl, rfl, 1, .inr (.inl ⟨rfl, rfl⟩), fun H5 c5 => ?_⟩
      walk_at "vs"
      exact q _
    · have due := ((oR hs).2 hf).2.1 hn
      refine ⟨true, T.exm_TooLong__RunError, fun _ a na => ?_, fun z => nomatch z⟩
      intro oe pn hz hf
      refine ⟨_, (pss_one (ps_ret (pe_and (pe_cmpR (op_une (K := K) (markH hu)) (pv 3) pe_str (nomark _)) (pe_one (pe_cmpR (op_ueq (K := K) (markH hu)) (pe_ownP (q := (a, oe)) O__law_class (by decide) (markH (L2H.roomH_of hr)) (hot_of hz hf) List.mem_cons_self hz.zc rfl passN (pa_cons (pv 5) pa_nil)) (pv 3) (nomark _)))))), ?_⟩
      walk_at "vs"
      rw [due, if_pos (by decide +kernel)]
      walk_at "vs"
      refine ⟨rfl, rfl, 2, .inr (.inr ⟨rfl, rfl⟩), fun H5 c5 => ?_⟩
      walk_at "vs"
      exact q _
    obtain ⟨due, hpn, hrl, hdp⟩ := ((oR hs).2 hf).2.2 hn
    walk_at "vs"
    rw [due, if_pos (decide_eq_true rfl)]
    walk_at "vs"
    have hv4 := hv3.on c4
    have hv5 : Rp H4 (V.ref p5) (pgZ z).d := .tup h4 (hxs.on c4)
    refine v_eq_Dr hv5 hv4 (by omega) ?_
    walk_at "vs"
    refine ⟨_, _, rfl, hv5, hpn, fun fo ys H5 nfo c5 h5 hys => ?_⟩
    walk_at "vs"
    refine v_len_l (SqL.of h5) ?_
    walk_at "vs"
    refine v_ix_d (v := .int z.rws) (DGet.k (k := .inr (Str.ofString "rows")) (c5.at (c4.at (c3.at (c2.at h1))))) ?_
    walk_at "vs"
    have e : ys.length = z.rws := by rw [hys.length, List.length_map, hrl]
    rw [decide_eq_true (show (ys.length : Int) = z.rws by omega)]
    exact q _
end
theorem all_mk {P : Program} {w : World} {K : PySem.W.Frag} {h : Heap} {mg : Str → Option Value} {fa : Addr} (X : K.In h) (G : h.Ns mainGlobals mg) (hfa : mg "law" = some (.ref fa))
    {Ck_BoxPart : Addr}
    {Ck_ListPart : Addr}
    {Ck_DoorPart : Addr}
    {Ck_FunctionPart : Addr}
    {Ck_ValuePart : Addr}
    {Ck_ValuesPart : Addr}
    {Ck_RowsPart : Addr}
    {Ck_Scope : Addr}
    {FScope___init__ : Addr} {ocScope___init__ : Value} {odScope___init__ : Option Addr} {slScope___init__ : Array (Option Value)} {kVScope___init__ dcScope___init__ pmScope___init__ : Value} {anScope___init__ : Option Addr} {cdScope___init__ ctScope___init__ : Value}
    {FBoxPart_fits : Addr} {ocBoxPart_fits : Value} {odBoxPart_fits : Option Addr} {slBoxPart_fits : Array (Option Value)} {kVBoxPart_fits dcBoxPart_fits pmBoxPart_fits : Value} {anBoxPart_fits : Option Addr} {cdBoxPart_fits ctBoxPart_fits : Value}
    {FListPart_fits : Addr} {ocListPart_fits : Value} {odListPart_fits : Option Addr} {slListPart_fits : Array (Option Value)} {kVListPart_fits dcListPart_fits pmListPart_fits : Value} {anListPart_fits : Option Addr} {cdListPart_fits ctListPart_fits : Value}
    {FDoorPart_fits : Addr} {ocDoorPart_fits : Value} {odDoorPart_fits : Option Addr} {slDoorPart_fits : Array (Option Value)} {kVDoorPart_fits dcDoorPart_fits pmDoorPart_fits : Value} {anDoorPart_fits : Option Addr} {cdDoorPart_fits ctDoorPart_fits : Value}
    {FFunctionPart_fits : Addr} {ocFunctionPart_fits : Value} {odFunctionPart_fits : Option Addr} {slFunctionPart_fits : Array (Option Value)} {kVFunctionPart_fits dcFunctionPart_fits pmFunctionPart_fits : Value} {anFunctionPart_fits : Option Addr} {cdFunctionPart_fits ctFunctionPart_fits : Value}
    {FValuePart_fits : Addr} {ocValuePart_fits : Value} {odValuePart_fits : Option Addr} {slValuePart_fits : Array (Option Value)} {kVValuePart_fits dcValuePart_fits pmValuePart_fits : Value} {anValuePart_fits : Option Addr} {cdValuePart_fits ctValuePart_fits : Value}
    {FValuesPart_fits : Addr} {ocValuesPart_fits : Value} {odValuesPart_fits : Option Addr} {slValuesPart_fits : Array (Option Value)} {kVValuesPart_fits dcValuesPart_fits pmValuesPart_fits : Value} {anValuesPart_fits : Option Addr} {cdValuesPart_fits ctValuesPart_fits : Value}
    {FRowsPart_fits : Addr} {ocRowsPart_fits : Value} {odRowsPart_fits : Option Addr} {slRowsPart_fits : Array (Option Value)} {kVRowsPart_fits dcRowsPart_fits pmRowsPart_fits : Value} {anRowsPart_fits : Option Addr} {cdRowsPart_fits ctRowsPart_fits : Value}
    {F0 : Addr} {oc0 : Value} {od0 : Option Addr} {sl0 : Array (Option Value)} {kV0 dc0 pm0 : Value} {an0 : Option Addr} {cd0 ct0 : Value}
    {F1 : Addr} {oc1 : Value} {od1 : Option Addr} {sl1 : Array (Option Value)} {kV1 dc1 pm1 : Value} {an1 : Option Addr} {cd1 ct1 : Value}
    {F2 : Addr} {oc2 : Value} {od2 : Option Addr} {sl2 : Array (Option Value)} {kV2 dc2 pm2 : Value} {an2 : Option Addr} {cd2 ct2 : Value}
    {F3 : Addr} {oc3 : Value} {od3 : Option Addr} {sl3 : Array (Option Value)} {kV3 dc3 pm3 : Value} {an3 : Option Addr} {cd3 ct3 : Value}
    {F4 : Addr} {oc4 : Value} {od4 : Option Addr} {sl4 : Array (Option Value)} {kV4 dc4 pm4 : Value} {an4 : Option Addr} {cd4 ct4 : Value}
    {F5 : Addr} {oc5 : Value} {od5 : Option Addr} {sl5 : Array (Option Value)} {kV5 dc5 pm5 : Value} {an5 : Option Addr} {cd5 ct5 : Value}
    {F6 : Addr} {oc6 : Value} {od6 : Option Addr} {sl6 : Array (Option Value)} {kV6 dc6 pm6 : Value} {an6 : Option Addr} {cd6 ct6 : Value}
    {F7 : Addr} {oc7 : Value} {od7 : Option Addr} {sl7 : Array (Option Value)} {kV7 dc7 pm7 : Value} {an7 : Option Addr} {cd7 ct7 : Value}
    {F16 : Addr} {oc16 : Value} {od16 : Option Addr} {sl16 : Array (Option Value)} {kV16 dc16 pm16 : Value} {an16 : Option Addr} {cd16 ct16 : Value}
    {F17 : Addr} {oc17 : Value} {od17 : Option Addr} {sl17 : Array (Option Value)} {kV17 dc17 pm17 : Value} {an17 : Option Addr} {cd17 ct17 : Value}
    {F18 : Addr} {oc18 : Value} {od18 : Option Addr} {sl18 : Array (Option Value)} {kV18 dc18 pm18 : Value} {an18 : Option Addr} {cd18 ct18 : Value}
    {F19 : Addr} {oc19 : Value} {od19 : Option Addr} {sl19 : Array (Option Value)} {kV19 dc19 pm19 : Value} {an19 : Option Addr} {cd19 ct19 : Value}
    {F20 : Addr} {oc20 : Value} {od20 : Option Addr} {sl20 : Array (Option Value)} {kV20 dc20 pm20 : Value} {an20 : Option Addr} {cd20 ct20 : Value}
    {F21 : Addr} {oc21 : Value} {od21 : Option Addr} {sl21 : Array (Option Value)} {kV21 dc21 pm21 : Value} {an21 : Option Addr} {cd21 ct21 : Value}
    {F22 : Addr} {oc22 : Value} {od22 : Option Addr} {sl22 : Array (Option Value)} {kV22 dc22 pm22 : Value} {an22 : Option Addr} {cd22 ct22 : Value}
    {F23 : Addr} {oc23 : Value} {od23 : Option Addr} {sl23 : Array (Option Value)} {kV23 dc23 pm23 : Value} {an23 : Option Addr} {cd23 ct23 : Value}
    {F24 : Addr} {oc24 : Value} {od24 : Option Addr} {sl24 : Array (Option Value)} {kV24 dc24 pm24 : Value} {an24 : Option Addr} {cd24 ct24 : Value}
    {F25 : Addr} {oc25 : Value} {od25 : Option Addr} {sl25 : Array (Option Value)} {kV25 dc25 pm25 : Value} {an25 : Option Addr} {cd25 ct25 : Value}
    {F26 : Addr} {oc26 : Value} {od26 : Option Addr} {sl26 : Array (Option Value)} {kV26 dc26 pm26 : Value} {an26 : Option Addr} {cd26 ct26 : Value}
    {F27 : Addr} {oc27 : Value} {od27 : Option Addr} {sl27 : Array (Option Value)} {kV27 dc27 pm27 : Value} {an27 : Option Addr} {cd27 ct27 : Value}
    {F28 : Addr} {oc28 : Value} {od28 : Option Addr} {sl28 : Array (Option Value)} {kV28 dc28 pm28 : Value} {an28 : Option Addr} {cd28 ct28 : Value}
    {F29 : Addr} {oc29 : Value} {od29 : Option Addr} {sl29 : Array (Option Value)} {kV29 dc29 pm29 : Value} {an29 : Option Addr} {cd29 ct29 : Value}
    {F30 : Addr} {oc30 : Value} {od30 : Option Addr} {sl30 : Array (Option Value)} {kV30 dc30 pm30 : Value} {an30 : Option Addr} {cd30 ct30 : Value}
    {F31 : Addr} {oc31 : Value} {od31 : Option Addr} {sl31 : Array (Option Value)} {kV31 dc31 pm31 : Value} {an31 : Option Addr} {cd31 ct31 : Value}
    {F32 : Addr} {oc32 : Value} {od32 : Option Addr} {sl32 : Array (Option Value)} {kV32 dc32 pm32 : Value} {an32 : Option Addr} {cd32 ct32 : Value}
    {F33 : Addr} {oc33 : Value} {od33 : Option Addr} {sl33 : Array (Option Value)} {kV33 dc33 pm33 : Value} {an33 : Option Addr} {cd33 ct33 : Value}
    {F34 : Addr} {oc34 : Value} {od34 : Option Addr} {sl34 : Array (Option Value)} {kV34 dc34 pm34 : Value} {an34 : Option Addr} {cd34 ct34 : Value}
    {F35 : Addr} {oc35 : Value} {od35 : Option Addr} {sl35 : Array (Option Value)} {kV35 dc35 pm35 : Value} {an35 : Option Addr} {cd35 ct35 : Value}
    {F36 : Addr} {oc36 : Value} {od36 : Option Addr} {sl36 : Array (Option Value)} {kV36 dc36 pm36 : Value} {an36 : Option Addr} {cd36 ct36 : Value}
    {F37 : Addr} {oc37 : Value} {od37 : Option Addr} {sl37 : Array (Option Value)} {kV37 dc37 pm37 : Value} {an37 : Option Addr} {cd37 ct37 : Value}
    {F38 : Addr} {oc38 : Value} {od38 : Option Addr} {sl38 : Array (Option Value)} {kV38 dc38 pm38 : Value} {an38 : Option Addr} {cd38 ct38 : Value}
    {F39 : Addr} {oc39 : Value} {od39 : Option Addr} {sl39 : Array (Option Value)} {kV39 dc39 pm39 : Value} {an39 : Option Addr} {cd39 ct39 : Value}
    {F40 : Addr} {oc40 : Value} {od40 : Option Addr} {sl40 : Array (Option Value)} {kV40 dc40 pm40 : Value} {an40 : Option Addr} {cd40 ct40 : Value}
    {tc_LONGEST_NAME : Tok}
    {tc_LETTERS : Tok}
    {tc_GREATEST : Tok}
    {tc_DEEPEST_values : Tok}
    {tc_DEEPEST_programs : Tok}
    {tc_MOST_BOXES : Tok}
    {tc_MOST_LISTS : Tok}
    {tc_MOST_THINGS : Tok}
    {tc_MOST_NAMES : Tok}
    {tc_MOST_FUNCTIONS : Tok}
    {tc_MOST_ROWS : Tok}
    {Cx_NoRow : Addr}
    {Cx_NoProgram : Addr}
    {Cx_TooLong : Addr}
    {Cx_NoWorld : Addr}
    {Cx_NoText : Addr}
    {Cx_NoStep : Addr}
    {Cx_NoCell : Addr}
    {Cx_NoDoor : Addr}
    {Cx_NoWord : Addr}
    {Cx_RunError : Addr}
    (k_BoxPartg : PySem.W.nsIn K mainGlobals "BoxPart" = some (some (.ref Ck_BoxPart)))
    (k_BoxPartpg : PySem.W.plainGet K Ck_BoxPart Str.empty = true)
    (k_BoxParthd : PySem.W.hasDictIn K Ck_BoxPart = true)
    (k_BoxPartpo : PySem.W.plainOver K Ck_BoxPart = true)
    (k_BoxPartsa : PySem.W.findIn K (.ref Ck_BoxPart) "__setattr__" = some (some (.builtin "object.__setattr__")))
    (k_BoxPartmk : PySem.W.makesIn K Ck_BoxPart = true)
    (k_BoxPartkp : PySem.W.keepIn K (.ref Ck_BoxPart) = true)
    (k_ListPartg : PySem.W.nsIn K mainGlobals "ListPart" = some (some (.ref Ck_ListPart)))
    (k_ListPartpg : PySem.W.plainGet K Ck_ListPart Str.empty = true)
    (k_ListParthd : PySem.W.hasDictIn K Ck_ListPart = true)
    (k_ListPartpo : PySem.W.plainOver K Ck_ListPart = true)
    (k_ListPartsa : PySem.W.findIn K (.ref Ck_ListPart) "__setattr__" = some (some (.builtin "object.__setattr__")))
    (k_ListPartmk : PySem.W.makesIn K Ck_ListPart = true)
    (k_ListPartkp : PySem.W.keepIn K (.ref Ck_ListPart) = true)
    (k_DoorPartg : PySem.W.nsIn K mainGlobals "DoorPart" = some (some (.ref Ck_DoorPart)))
    (k_DoorPartpg : PySem.W.plainGet K Ck_DoorPart Str.empty = true)
    (k_DoorParthd : PySem.W.hasDictIn K Ck_DoorPart = true)
    (k_DoorPartpo : PySem.W.plainOver K Ck_DoorPart = true)
    (k_DoorPartsa : PySem.W.findIn K (.ref Ck_DoorPart) "__setattr__" = some (some (.builtin "object.__setattr__")))
    (k_DoorPartmk : PySem.W.makesIn K Ck_DoorPart = true)
    (k_DoorPartkp : PySem.W.keepIn K (.ref Ck_DoorPart) = true)
    (k_FunctionPartg : PySem.W.nsIn K mainGlobals "FunctionPart" = some (some (.ref Ck_FunctionPart)))
    (k_FunctionPartpg : PySem.W.plainGet K Ck_FunctionPart Str.empty = true)
    (k_FunctionParthd : PySem.W.hasDictIn K Ck_FunctionPart = true)
    (k_FunctionPartpo : PySem.W.plainOver K Ck_FunctionPart = true)
    (k_FunctionPartsa : PySem.W.findIn K (.ref Ck_FunctionPart) "__setattr__" = some (some (.builtin "object.__setattr__")))
    (k_FunctionPartmk : PySem.W.makesIn K Ck_FunctionPart = true)
    (k_FunctionPartkp : PySem.W.keepIn K (.ref Ck_FunctionPart) = true)
    (k_ValuePartg : PySem.W.nsIn K mainGlobals "ValuePart" = some (some (.ref Ck_ValuePart)))
    (k_ValuePartpg : PySem.W.plainGet K Ck_ValuePart Str.empty = true)
    (k_ValueParthd : PySem.W.hasDictIn K Ck_ValuePart = true)
    (k_ValuePartpo : PySem.W.plainOver K Ck_ValuePart = true)
    (k_ValuePartsa : PySem.W.findIn K (.ref Ck_ValuePart) "__setattr__" = some (some (.builtin "object.__setattr__")))
    (k_ValuePartmk : PySem.W.makesIn K Ck_ValuePart = true)
    (k_ValuePartkp : PySem.W.keepIn K (.ref Ck_ValuePart) = true)
    (k_ValuesPartg : PySem.W.nsIn K mainGlobals "ValuesPart" = some (some (.ref Ck_ValuesPart)))
    (k_ValuesPartpg : PySem.W.plainGet K Ck_ValuesPart Str.empty = true)
    (k_ValuesParthd : PySem.W.hasDictIn K Ck_ValuesPart = true)
    (k_ValuesPartpo : PySem.W.plainOver K Ck_ValuesPart = true)
    (k_ValuesPartsa : PySem.W.findIn K (.ref Ck_ValuesPart) "__setattr__" = some (some (.builtin "object.__setattr__")))
    (k_ValuesPartmk : PySem.W.makesIn K Ck_ValuesPart = true)
    (k_ValuesPartkp : PySem.W.keepIn K (.ref Ck_ValuesPart) = true)
    (k_RowsPartg : PySem.W.nsIn K mainGlobals "RowsPart" = some (some (.ref Ck_RowsPart)))
    (k_RowsPartpg : PySem.W.plainGet K Ck_RowsPart Str.empty = true)
    (k_RowsParthd : PySem.W.hasDictIn K Ck_RowsPart = true)
    (k_RowsPartpo : PySem.W.plainOver K Ck_RowsPart = true)
    (k_RowsPartsa : PySem.W.findIn K (.ref Ck_RowsPart) "__setattr__" = some (some (.builtin "object.__setattr__")))
    (k_RowsPartmk : PySem.W.makesIn K Ck_RowsPart = true)
    (k_RowsPartkp : PySem.W.keepIn K (.ref Ck_RowsPart) = true)
    (k_Scopeg : PySem.W.nsIn K mainGlobals "Scope" = some (some (.ref Ck_Scope)))
    (k_Scopepg : PySem.W.plainGet K Ck_Scope Str.empty = true)
    (k_Scopehd : PySem.W.hasDictIn K Ck_Scope = true)
    (k_Scopepo : PySem.W.plainOver K Ck_Scope = true)
    (k_Scopesa : PySem.W.findIn K (.ref Ck_Scope) "__setattr__" = some (some (.builtin "object.__setattr__")))
    (k_Scopemk : PySem.W.makesIn K Ck_Scope = true)
    (k_Scopekp : PySem.W.keepIn K (.ref Ck_Scope) = true)
    (k_Scopen_boxes : PySem.W.findIn K (.ref Ck_Scope) "boxes" = some none)
    (k_Scopen_lists : PySem.W.findIn K (.ref Ck_Scope) "lists" = some none)
    (k_Scopen_functions : PySem.W.findIn K (.ref Ck_Scope) "functions" = some none)
    (k_Scopen_inside : PySem.W.findIn K (.ref Ck_Scope) "inside" = some none)
    (oi_ValuePart : PySem.W.findIn K (.ref Ck_ValuePart) "__init__" = some (some (.builtin "object.__init__")))
    (oi_BoxPart : PySem.W.findIn K (.ref Ck_BoxPart) "__init__" = some (some (.builtin "object.__init__")))
    (oi_ListPart : PySem.W.findIn K (.ref Ck_ListPart) "__init__" = some (some (.builtin "object.__init__")))
    (oi_DoorPart : PySem.W.findIn K (.ref Ck_DoorPart) "__init__" = some (some (.builtin "object.__init__")))
    (oi_FunctionPart : PySem.W.findIn K (.ref Ck_FunctionPart) "__init__" = some (some (.builtin "object.__init__")))
    (oi_ValuesPart : PySem.W.findIn K (.ref Ck_ValuesPart) "__init__" = some (some (.builtin "object.__init__")))
    (oi_RowsPart : PySem.W.findIn K (.ref Ck_RowsPart) "__init__" = some (some (.builtin "object.__init__")))
    (atm_Scope___init__ : PySem.W.findIn K (.ref Ck_Scope) "__init__" = some (some (.ref FScope___init__)))
    (lScope___init__ : K.lookup FScope___init__ = some ⟨ocScope___init__, odScope___init__, .func (PySem.W.fnOf "__init__" "Scope.__init__" (defArgs (inClass (topS 35) 0)) (defBody (inClass (topS 35) 0)) (defScope (inClass (topS 35) 0)) .none kVScope___init__ dcScope___init__ pmScope___init__ anScope___init__ cdScope___init__ ctScope___init__), slScope___init__⟩)
    (cScope___init__ : PySem.W.codeIn K cdScope___init__ "Scope.__init__" = true)
    (kScope___init__ : PySem.W.keepIn K (.ref FScope___init__) = true)
    (fScope___init__ : PySem.W.isFn K (.ref FScope___init__) = true)
    (atm_BoxPart_fits : PySem.W.findIn K (.ref Ck_BoxPart) "fits" = some (some (.ref FBoxPart_fits)))
    (lBoxPart_fits : K.lookup FBoxPart_fits = some ⟨ocBoxPart_fits, odBoxPart_fits, .func (PySem.W.fnOf "fits" "BoxPart.fits" (defArgs (inClass (topS 37) 0)) (defBody (inClass (topS 37) 0)) (defScope (inClass (topS 37) 0)) .none kVBoxPart_fits dcBoxPart_fits pmBoxPart_fits anBoxPart_fits cdBoxPart_fits ctBoxPart_fits), slBoxPart_fits⟩)
    (cBoxPart_fits : PySem.W.codeIn K cdBoxPart_fits "BoxPart.fits" = true)
    (kBoxPart_fits : PySem.W.keepIn K (.ref FBoxPart_fits) = true)
    (fBoxPart_fits : PySem.W.isFn K (.ref FBoxPart_fits) = true)
    (atm_ListPart_fits : PySem.W.findIn K (.ref Ck_ListPart) "fits" = some (some (.ref FListPart_fits)))
    (lListPart_fits : K.lookup FListPart_fits = some ⟨ocListPart_fits, odListPart_fits, .func (PySem.W.fnOf "fits" "ListPart.fits" (defArgs (inClass (topS 38) 0)) (defBody (inClass (topS 38) 0)) (defScope (inClass (topS 38) 0)) .none kVListPart_fits dcListPart_fits pmListPart_fits anListPart_fits cdListPart_fits ctListPart_fits), slListPart_fits⟩)
    (cListPart_fits : PySem.W.codeIn K cdListPart_fits "ListPart.fits" = true)
    (kListPart_fits : PySem.W.keepIn K (.ref FListPart_fits) = true)
    (fListPart_fits : PySem.W.isFn K (.ref FListPart_fits) = true)
    (atm_DoorPart_fits : PySem.W.findIn K (.ref Ck_DoorPart) "fits" = some (some (.ref FDoorPart_fits)))
    (lDoorPart_fits : K.lookup FDoorPart_fits = some ⟨ocDoorPart_fits, odDoorPart_fits, .func (PySem.W.fnOf "fits" "DoorPart.fits" (defArgs (inClass (topS 39) 0)) (defBody (inClass (topS 39) 0)) (defScope (inClass (topS 39) 0)) .none kVDoorPart_fits dcDoorPart_fits pmDoorPart_fits anDoorPart_fits cdDoorPart_fits ctDoorPart_fits), slDoorPart_fits⟩)
    (cDoorPart_fits : PySem.W.codeIn K cdDoorPart_fits "DoorPart.fits" = true)
    (kDoorPart_fits : PySem.W.keepIn K (.ref FDoorPart_fits) = true)
    (fDoorPart_fits : PySem.W.isFn K (.ref FDoorPart_fits) = true)
    (atm_FunctionPart_fits : PySem.W.findIn K (.ref Ck_FunctionPart) "fits" = some (some (.ref FFunctionPart_fits)))
    (lFunctionPart_fits : K.lookup FFunctionPart_fits = some ⟨ocFunctionPart_fits, odFunctionPart_fits, .func (PySem.W.fnOf "fits" "FunctionPart.fits" (defArgs (inClass (topS 40) 0)) (defBody (inClass (topS 40) 0)) (defScope (inClass (topS 40) 0)) .none kVFunctionPart_fits dcFunctionPart_fits pmFunctionPart_fits anFunctionPart_fits cdFunctionPart_fits ctFunctionPart_fits), slFunctionPart_fits⟩)
    (cFunctionPart_fits : PySem.W.codeIn K cdFunctionPart_fits "FunctionPart.fits" = true)
    (kFunctionPart_fits : PySem.W.keepIn K (.ref FFunctionPart_fits) = true)
    (fFunctionPart_fits : PySem.W.isFn K (.ref FFunctionPart_fits) = true)
    (atm_ValuePart_fits : PySem.W.findIn K (.ref Ck_ValuePart) "fits" = some (some (.ref FValuePart_fits)))
    (lValuePart_fits : K.lookup FValuePart_fits = some ⟨ocValuePart_fits, odValuePart_fits, .func (PySem.W.fnOf "fits" "ValuePart.fits" (defArgs (inClass (topS 41) 0)) (defBody (inClass (topS 41) 0)) (defScope (inClass (topS 41) 0)) .none kVValuePart_fits dcValuePart_fits pmValuePart_fits anValuePart_fits cdValuePart_fits ctValuePart_fits), slValuePart_fits⟩)
    (cValuePart_fits : PySem.W.codeIn K cdValuePart_fits "ValuePart.fits" = true)
    (kValuePart_fits : PySem.W.keepIn K (.ref FValuePart_fits) = true)
    (fValuePart_fits : PySem.W.isFn K (.ref FValuePart_fits) = true)
    (atm_ValuesPart_fits : PySem.W.findIn K (.ref Ck_ValuesPart) "fits" = some (some (.ref FValuesPart_fits)))
    (lValuesPart_fits : K.lookup FValuesPart_fits = some ⟨ocValuesPart_fits, odValuesPart_fits, .func (PySem.W.fnOf "fits" "ValuesPart.fits" (defArgs (inClass (topS 42) 0)) (defBody (inClass (topS 42) 0)) (defScope (inClass (topS 42) 0)) .none kVValuesPart_fits dcValuesPart_fits pmValuesPart_fits anValuesPart_fits cdValuesPart_fits ctValuesPart_fits), slValuesPart_fits⟩)
    (cValuesPart_fits : PySem.W.codeIn K cdValuesPart_fits "ValuesPart.fits" = true)
    (kValuesPart_fits : PySem.W.keepIn K (.ref FValuesPart_fits) = true)
    (fValuesPart_fits : PySem.W.isFn K (.ref FValuesPart_fits) = true)
    (atm_RowsPart_fits : PySem.W.findIn K (.ref Ck_RowsPart) "fits" = some (some (.ref FRowsPart_fits)))
    (lRowsPart_fits : K.lookup FRowsPart_fits = some ⟨ocRowsPart_fits, odRowsPart_fits, .func (PySem.W.fnOf "fits" "RowsPart.fits" (defArgs (inClass (topS 43) 0)) (defBody (inClass (topS 43) 0)) (defScope (inClass (topS 43) 0)) .none kVRowsPart_fits dcRowsPart_fits pmRowsPart_fits anRowsPart_fits cdRowsPart_fits ctRowsPart_fits), slRowsPart_fits⟩)
    (cRowsPart_fits : PySem.W.codeIn K cdRowsPart_fits "RowsPart.fits" = true)
    (kRowsPart_fits : PySem.W.keepIn K (.ref FRowsPart_fits) = true)
    (fRowsPart_fits : PySem.W.isFn K (.ref FRowsPart_fits) = true)
    (a0 : PySem.W.nsIn K mainGlobals "is_name" = some (some (.ref F0)))
    (l0 : K.lookup F0 = some ⟨oc0, od0, .func (PySem.W.fnOf "is_name" "is_name" (defArgs s_is_name) (defBody s_is_name) (defScope s_is_name) .none kV0 dc0 pm0 an0 cd0 ct0), sl0⟩)
    (c0 : PySem.W.codeIn K cd0 "is_name" = true)
    (k0 : PySem.W.keepIn K (.ref F0) = true)
    (a1 : PySem.W.nsIn K mainGlobals "is_number" = some (some (.ref F1)))
    (l1 : K.lookup F1 = some ⟨oc1, od1, .func (PySem.W.fnOf "is_number" "is_number" (defArgs s_is_number) (defBody s_is_number) (defScope s_is_number) .none kV1 dc1 pm1 an1 cd1 ct1), sl1⟩)
    (c1 : PySem.W.codeIn K cd1 "is_number" = true)
    (k1 : PySem.W.keepIn K (.ref F1) = true)
    (a2 : PySem.W.nsIn K mainGlobals "is_one_of" = some (some (.ref F2)))
    (l2 : K.lookup F2 = some ⟨oc2, od2, .func (PySem.W.fnOf "is_one_of" "is_one_of" (defArgs s_is_one_of) (defBody s_is_one_of) (defScope s_is_one_of) .none kV2 dc2 pm2 an2 cd2 ct2), sl2⟩)
    (c2 : PySem.W.codeIn K cd2 "is_one_of" = true)
    (k2 : PySem.W.keepIn K (.ref F2) = true)
    (a3 : PySem.W.nsIn K mainGlobals "values_in" = some (some (.ref F3)))
    (l3 : K.lookup F3 = some ⟨oc3, od3, .func (PySem.W.fnOf "values_in" "values_in" (defArgs s_values_in) (defBody s_values_in) (defScope s_values_in) .none kV3 dc3 pm3 an3 cd3 ct3), sl3⟩)
    (c3 : PySem.W.codeIn K cd3 "values_in" = true)
    (k3 : PySem.W.keepIn K (.ref F3) = true)
    (a4 : PySem.W.nsIn K mainGlobals "is_plain" = some (some (.ref F4)))
    (l4 : K.lookup F4 = some ⟨oc4, od4, .func (PySem.W.fnOf "is_plain" "is_plain" (defArgs s_is_plain) (defBody s_is_plain) (defScope s_is_plain) .none kV4 dc4 pm4 an4 cd4 ct4), sl4⟩)
    (c4 : PySem.W.codeIn K cd4 "is_plain" = true)
    (k4 : PySem.W.keepIn K (.ref F4) = true)
    (a5 : PySem.W.nsIn K mainGlobals "is_within" = some (some (.ref F5)))
    (l5 : K.lookup F5 = some ⟨oc5, od5, .func (PySem.W.fnOf "is_within" "is_within" (defArgs s_is_within) (defBody s_is_within) (defScope s_is_within) .none kV5 dc5 pm5 an5 cd5 ct5), sl5⟩)
    (c5 : PySem.W.codeIn K cd5 "is_within" = true)
    (k5 : PySem.W.keepIn K (.ref F5) = true)
    (a6 : PySem.W.nsIn K mainGlobals "is_value" = some (some (.ref F6)))
    (l6 : K.lookup F6 = some ⟨oc6, od6, .func (PySem.W.fnOf "is_value" "is_value" (defArgs s_is_value) (defBody s_is_value) (defScope s_is_value) .none kV6 dc6 pm6 an6 cd6 ct6), sl6⟩)
    (c6 : PySem.W.codeIn K cd6 "is_value" = true)
    (k6 : PySem.W.keepIn K (.ref F6) = true)
    (a7 : PySem.W.nsIn K mainGlobals "parts_of" = some (some (.ref F7)))
    (l7 : K.lookup F7 = some ⟨oc7, od7, .func (PySem.W.fnOf "parts_of" "parts_of" (defArgs s_parts_of) (defBody s_parts_of) (defScope s_parts_of) .none kV7 dc7 pm7 an7 cd7 ct7), sl7⟩)
    (c7 : PySem.W.codeIn K cd7 "parts_of" = true)
    (k7 : PySem.W.keepIn K (.ref F7) = true)
    (a16 : PySem.W.nsIn K mainGlobals "is_row" = some (some (.ref F16)))
    (l16 : K.lookup F16 = some ⟨oc16, od16, .func (PySem.W.fnOf "is_row" "is_row" (defArgs s_is_row) (defBody s_is_row) (defScope s_is_row) .none kV16 dc16 pm16 an16 cd16 ct16), sl16⟩)
    (c16 : PySem.W.codeIn K cd16 "is_row" = true)
    (k16 : PySem.W.keepIn K (.ref F16) = true)
    (a17 : PySem.W.nsIn K mainGlobals "is_tuple" = some (some (.ref F17)))
    (l17 : K.lookup F17 = some ⟨oc17, od17, .func (PySem.W.fnOf "is_tuple" "is_tuple" (defArgs s_is_tuple) (defBody s_is_tuple) (defScope s_is_tuple) .none kV17 dc17 pm17 an17 cd17 ct17), sl17⟩)
    (c17 : PySem.W.codeIn K cd17 "is_tuple" = true)
    (k17 : PySem.W.keepIn K (.ref F17) = true)
    (a18 : PySem.W.nsIn K mainGlobals "is_pair" = some (some (.ref F18)))
    (l18 : K.lookup F18 = some ⟨oc18, od18, .func (PySem.W.fnOf "is_pair" "is_pair" (defArgs s_is_pair) (defBody s_is_pair) (defScope s_is_pair) .none kV18 dc18 pm18 an18 cd18 ct18), sl18⟩)
    (c18 : PySem.W.codeIn K cd18 "is_pair" = true)
    (k18 : PySem.W.keepIn K (.ref F18) = true)
    (a19 : PySem.W.nsIn K mainGlobals "are_numbers" = some (some (.ref F19)))
    (l19 : K.lookup F19 = some ⟨oc19, od19, .func (PySem.W.fnOf "are_numbers" "are_numbers" (defArgs s_are_numbers) (defBody s_are_numbers) (defScope s_are_numbers) .none kV19 dc19 pm19 an19 cd19 ct19), sl19⟩)
    (c19 : PySem.W.codeIn K cd19 "are_numbers" = true)
    (k19 : PySem.W.keepIn K (.ref F19) = true)
    (a20 : PySem.W.nsIn K mainGlobals "are_unlike" = some (some (.ref F20)))
    (l20 : K.lookup F20 = some ⟨oc20, od20, .func (PySem.W.fnOf "are_unlike" "are_unlike" (defArgs s_are_unlike) (defBody s_are_unlike) (defScope s_are_unlike) .none kV20 dc20 pm20 an20 cd20 ct20), sl20⟩)
    (c20 : PySem.W.codeIn K cd20 "are_unlike" = true)
    (k20 : PySem.W.keepIn K (.ref F20) = true)
    (a21 : PySem.W.nsIn K mainGlobals "are_names" = some (some (.ref F21)))
    (l21 : K.lookup F21 = some ⟨oc21, od21, .func (PySem.W.fnOf "are_names" "are_names" (defArgs s_are_names) (defBody s_are_names) (defScope s_are_names) .none kV21 dc21 pm21 an21 cd21 ct21), sl21⟩)
    (c21 : PySem.W.codeIn K cd21 "are_names" = true)
    (k21 : PySem.W.keepIn K (.ref F21) = true)
    (a22 : PySem.W.nsIn K mainGlobals "are_stores" = some (some (.ref F22)))
    (l22 : K.lookup F22 = some ⟨oc22, od22, .func (PySem.W.fnOf "are_stores" "are_stores" (defArgs s_are_stores) (defBody s_are_stores) (defScope s_are_stores) .none kV22 dc22 pm22 an22 cd22 ct22), sl22⟩)
    (c22 : PySem.W.codeIn K cd22 "are_stores" = true)
    (k22 : PySem.W.keepIn K (.ref F22) = true)
    (a23 : PySem.W.nsIn K mainGlobals "is_function" = some (some (.ref F23)))
    (l23 : K.lookup F23 = some ⟨oc23, od23, .func (PySem.W.fnOf "is_function" "is_function" (defArgs s_is_function) (defBody s_is_function) (defScope s_is_function) .none kV23 dc23 pm23 an23 cd23 ct23), sl23⟩)
    (c23 : PySem.W.codeIn K cd23 "is_function" = true)
    (k23 : PySem.W.keepIn K (.ref F23) = true)
    (a24 : PySem.W.nsIn K mainGlobals "are_functions" = some (some (.ref F24)))
    (l24 : K.lookup F24 = some ⟨oc24, od24, .func (PySem.W.fnOf "are_functions" "are_functions" (defArgs s_are_functions) (defBody s_are_functions) (defScope s_are_functions) .none kV24 dc24 pm24 an24 cd24 ct24), sl24⟩)
    (c24 : PySem.W.codeIn K cd24 "are_functions" = true)
    (k24 : PySem.W.keepIn K (.ref F24) = true)
    (a25 : PySem.W.nsIn K mainGlobals "need_rows" = some (some (.ref F25)))
    (l25 : K.lookup F25 = some ⟨oc25, od25, .func (PySem.W.fnOf "need_rows" "need_rows" (defArgs s_need_rows) (defBody s_need_rows) (defScope s_need_rows) .none kV25 dc25 pm25 an25 cd25 ct25), sl25⟩)
    (c25 : PySem.W.codeIn K cd25 "need_rows" = true)
    (k25 : PySem.W.keepIn K (.ref F25) = true)
    (a26 : PySem.W.nsIn K mainGlobals "rows_within" = some (some (.ref F26)))
    (l26 : K.lookup F26 = some ⟨oc26, od26, .func (PySem.W.fnOf "rows_within" "rows_within" (defArgs s_rows_within) (defBody s_rows_within) (defScope s_rows_within) .none kV26 dc26 pm26 an26 cd26 ct26), sl26⟩)
    (c26 : PySem.W.codeIn K cd26 "rows_within" = true)
    (k26 : PySem.W.keepIn K (.ref F26) = true)
    (a27 : PySem.W.nsIn K mainGlobals "put_rows" = some (some (.ref F27)))
    (l27 : K.lookup F27 = some ⟨oc27, od27, .func (PySem.W.fnOf "put_rows" "put_rows" (defArgs s_put_rows) (defBody s_put_rows) (defScope s_put_rows) .none kV27 dc27 pm27 an27 cd27 ct27), sl27⟩)
    (c27 : PySem.W.codeIn K cd27 "put_rows" = true)
    (k27 : PySem.W.keepIn K (.ref F27) = true)
    (a28 : PySem.W.nsIn K mainGlobals "rows_of" = some (some (.ref F28)))
    (l28 : K.lookup F28 = some ⟨oc28, od28, .func (PySem.W.fnOf "rows_of" "rows_of" (defArgs s_rows_of) (defBody s_rows_of) (defScope s_rows_of) .none kV28 dc28 pm28 an28 cd28 ct28), sl28⟩)
    (c28 : PySem.W.codeIn K cd28 "rows_of" = true)
    (k28 : PySem.W.keepIn K (.ref F28) = true)
    (a29 : PySem.W.nsIn K mainGlobals "program_of" = some (some (.ref F29)))
    (l29 : K.lookup F29 = some ⟨oc29, od29, .func (PySem.W.fnOf "program_of" "program_of" (defArgs s_program_of) (defBody s_program_of) (defScope s_program_of) .none kV29 dc29 pm29 an29 cd29 ct29), sl29⟩)
    (c29 : PySem.W.codeIn K cd29 "program_of" = true)
    (k29 : PySem.W.keepIn K (.ref F29) = true)
    (a30 : PySem.W.nsIn K mainGlobals "_law_cell_at" = some (some (.ref F30)))
    (l30 : K.lookup F30 = some ⟨oc30, od30, .func (PySem.W.fnOf "_law_cell_at" "_law_cell_at" (defArgs s__law_cell_at) (defBody s__law_cell_at) (defScope s__law_cell_at) .none kV30 dc30 pm30 an30 cd30 ct30), sl30⟩)
    (c30 : PySem.W.codeIn K cd30 "_law_cell_at" = true)
    (k30 : PySem.W.keepIn K (.ref F30) = true)
    (a31 : PySem.W.nsIn K mainGlobals "_law_state" = some (some (.ref F31)))
    (l31 : K.lookup F31 = some ⟨oc31, od31, .func (PySem.W.fnOf "_law_state" "_law_state" (defArgs s__law_state) (defBody s__law_state) (defScope s__law_state) .none kV31 dc31 pm31 an31 cd31 ct31), sl31⟩)
    (c31 : PySem.W.codeIn K cd31 "_law_state" = true)
    (k31 : PySem.W.keepIn K (.ref F31) = true)
    (a32 : PySem.W.nsIn K mainGlobals "_law_next" = some (some (.ref F32)))
    (l32 : K.lookup F32 = some ⟨oc32, od32, .func (PySem.W.fnOf "_law_next" "_law_next" (defArgs s__law_next) (defBody s__law_next) (defScope s__law_next) .none kV32 dc32 pm32 an32 cd32 ct32), sl32⟩)
    (c32 : PySem.W.codeIn K cd32 "_law_next" = true)
    (k32 : PySem.W.keepIn K (.ref F32) = true)
    (a33 : PySem.W.nsIn K mainGlobals "_law_class" = some (some (.ref F33)))
    (l33 : K.lookup F33 = some ⟨oc33, od33, .func (PySem.W.fnOf "_law_class" "_law_class" (defArgs s__law_class) (defBody s__law_class) (defScope s__law_class) .none kV33 dc33 pm33 an33 cd33 ct33), sl33⟩)
    (c33 : PySem.W.codeIn K cd33 "_law_class" = true)
    (k33 : PySem.W.keepIn K (.ref F33) = true)
    (a34 : PySem.W.nsIn K mainGlobals "_law_sizes" = some (some (.ref F34)))
    (l34 : K.lookup F34 = some ⟨oc34, od34, .func (PySem.W.fnOf "_law_sizes" "_law_sizes" (defArgs s__law_sizes) (defBody s__law_sizes) (defScope s__law_sizes) .none kV34 dc34 pm34 an34 cd34 ct34), sl34⟩)
    (c34 : PySem.W.codeIn K cd34 "_law_sizes" = true)
    (k34 : PySem.W.keepIn K (.ref F34) = true)
    (a35 : PySem.W.nsIn K mainGlobals "_law_name" = some (some (.ref F35)))
    (l35 : K.lookup F35 = some ⟨oc35, od35, .func (PySem.W.fnOf "_law_name" "_law_name" (defArgs s__law_name) (defBody s__law_name) (defScope s__law_name) .none kV35 dc35 pm35 an35 cd35 ct35), sl35⟩)
    (c35 : PySem.W.codeIn K cd35 "_law_name" = true)
    (k35 : PySem.W.keepIn K (.ref F35) = true)
    (a36 : PySem.W.nsIn K mainGlobals "_law_value" = some (some (.ref F36)))
    (l36 : K.lookup F36 = some ⟨oc36, od36, .func (PySem.W.fnOf "_law_value" "_law_value" (defArgs s__law_value) (defBody s__law_value) (defScope s__law_value) .none kV36 dc36 pm36 an36 cd36 ct36), sl36⟩)
    (c36 : PySem.W.codeIn K cd36 "_law_value" = true)
    (k36 : PySem.W.keepIn K (.ref F36) = true)
    (a37 : PySem.W.nsIn K mainGlobals "_law_row" = some (some (.ref F37)))
    (l37 : K.lookup F37 = some ⟨oc37, od37, .func (PySem.W.fnOf "_law_row" "_law_row" (defArgs s__law_row) (defBody s__law_row) (defScope s__law_row) .none kV37 dc37 pm37 an37 cd37 ct37), sl37⟩)
    (c37 : PySem.W.codeIn K cd37 "_law_row" = true)
    (k37 : PySem.W.keepIn K (.ref F37) = true)
    (a38 : PySem.W.nsIn K mainGlobals "_law_parts" = some (some (.ref F38)))
    (l38 : K.lookup F38 = some ⟨oc38, od38, .func (PySem.W.fnOf "_law_parts" "_law_parts" (defArgs s__law_parts) (defBody s__law_parts) (defScope s__law_parts) .none kV38 dc38 pm38 an38 cd38 ct38), sl38⟩)
    (c38 : PySem.W.codeIn K cd38 "_law_parts" = true)
    (k38 : PySem.W.keepIn K (.ref F38) = true)
    (a39 : PySem.W.nsIn K mainGlobals "_law_due" = some (some (.ref F39)))
    (l39 : K.lookup F39 = some ⟨oc39, od39, .func (PySem.W.fnOf "_law_due" "_law_due" (defArgs s__law_due) (defBody s__law_due) (defScope s__law_due) .none kV39 dc39 pm39 an39 cd39 ct39), sl39⟩)
    (c39 : PySem.W.codeIn K cd39 "_law_due" = true)
    (k39 : PySem.W.keepIn K (.ref F39) = true)
    (a40 : PySem.W.nsIn K mainGlobals "law" = some (some (.ref F40)))
    (l40 : K.lookup F40 = some ⟨oc40, od40, .func (PySem.W.fnOf "law" "law" (defArgs s_law) (defBody s_law) (defScope s_law) .none kV40 dc40 pm40 an40 cd40 ct40), sl40⟩)
    (c40 : PySem.W.codeIn K cd40 "law" = true)
    (k40 : PySem.W.keepIn K (.ref F40) = true)
    (n_isinstance : PySem.W.nsIn K mainGlobals "isinstance" = some none)
    (n_str : PySem.W.nsIn K mainGlobals "str" = some none)
    (n_len : PySem.W.nsIn K mainGlobals "len" = some none)
    (c_LONGEST_NAME : PySem.W.nsIn K mainGlobals "LONGEST_NAME" = some (some (.int 6 tc_LONGEST_NAME)))
    (c_LETTERS : PySem.W.nsIn K mainGlobals "LETTERS" = some (some (.str "abcdefghijklmnopqrstuvwxyz" tc_LETTERS)))
    (n_int : PySem.W.nsIn K mainGlobals "int" = some none)
    (n_bool : PySem.W.nsIn K mainGlobals "bool" = some none)
    (c_GREATEST : PySem.W.nsIn K mainGlobals "GREATEST" = some (some (.int 999999 tc_GREATEST)))
    (n_tuple : PySem.W.nsIn K mainGlobals "tuple" = some none)
    (c_DEEPEST_values : PySem.W.nsIn K mainGlobals "DEEPEST_values" = some (some (.int 4 tc_DEEPEST_values)))
    (n_list : PySem.W.nsIn K mainGlobals "list" = some none)
    (n_all : PySem.W.nsIn K mainGlobals "all" = some none)
    (n_zip : PySem.W.nsIn K mainGlobals "zip" = some none)
    (c_DEEPEST_programs : PySem.W.nsIn K mainGlobals "DEEPEST_programs" = some (some (.int 5 tc_DEEPEST_programs)))
    (n_set : PySem.W.nsIn K mainGlobals "set" = some none)
    (c_MOST_BOXES : PySem.W.nsIn K mainGlobals "MOST_BOXES" = some (some (.int 6 tc_MOST_BOXES)))
    (c_MOST_LISTS : PySem.W.nsIn K mainGlobals "MOST_LISTS" = some (some (.int 3 tc_MOST_LISTS)))
    (c_MOST_THINGS : PySem.W.nsIn K mainGlobals "MOST_THINGS" = some (some (.int 12 tc_MOST_THINGS)))
    (c_MOST_NAMES : PySem.W.nsIn K mainGlobals "MOST_NAMES" = some (some (.int 3 tc_MOST_NAMES)))
    (c_MOST_FUNCTIONS : PySem.W.nsIn K mainGlobals "MOST_FUNCTIONS" = some (some (.int 4 tc_MOST_FUNCTIONS)))
    (n_dict : PySem.W.nsIn K mainGlobals "dict" = some none)
    (c_MOST_ROWS : PySem.W.nsIn K mainGlobals "MOST_ROWS" = some (some (.int 60 tc_MOST_ROWS)))
    (n_ValueError : PySem.W.nsIn K mainGlobals "ValueError" = some none)
    (n_range : PySem.W.nsIn K mainGlobals "range" = some none)
    (x_NoRowg : PySem.W.nsIn K mainGlobals "NoRow" = some (some (.ref Cx_NoRow)))
    (x_NoRowex : PySem.W.excIn K Cx_NoRow [.type "ValueError", .type "Exception", .type "BaseException", .type "object"] "ValueError.__new__" = true)
    (x_NoRowkp : PySem.W.keepIn K (.ref Cx_NoRow) = true)
    (x_NoRowsub : PySem.W.subIn K (.ref Cx_NoRow) (.type "BaseException") = some true)
    (x_NoRowty : PySem.W.typeIn K (.ref Cx_NoRow) = some (.type "type"))
    (x_NoRowhg : PySem.W.findIn K (.ref Cx_NoRow) "__getattribute__" = some (some (.builtin "BaseException.__getattribute__")))
    (x_NoRowhk : PySem.W.findIn K (.ref Cx_NoRow) "__getattr__" = some none)
    (x_NoRowhd : PySem.W.hasDictIn K Cx_NoRow = true)
    (x_NoRowha : PySem.W.findIn K (.ref Cx_NoRow) "__class__" = some (some (.builtin "object.__class__")))
    (x_NoRowhm : PySem.W.mroIn K Cx_NoRow (.type "object") = some true)
    (x_NoProgramg : PySem.W.nsIn K mainGlobals "NoProgram" = some (some (.ref Cx_NoProgram)))
    (x_NoProgramex : PySem.W.excIn K Cx_NoProgram [.type "ValueError", .type "Exception", .type "BaseException", .type "object"] "ValueError.__new__" = true)
    (x_NoProgramkp : PySem.W.keepIn K (.ref Cx_NoProgram) = true)
    (x_NoProgramsub : PySem.W.subIn K (.ref Cx_NoProgram) (.type "BaseException") = some true)
    (x_NoProgramty : PySem.W.typeIn K (.ref Cx_NoProgram) = some (.type "type"))
    (x_NoProgramhg : PySem.W.findIn K (.ref Cx_NoProgram) "__getattribute__" = some (some (.builtin "BaseException.__getattribute__")))
    (x_NoProgramhk : PySem.W.findIn K (.ref Cx_NoProgram) "__getattr__" = some none)
    (x_NoProgramhd : PySem.W.hasDictIn K Cx_NoProgram = true)
    (x_NoProgramha : PySem.W.findIn K (.ref Cx_NoProgram) "__class__" = some (some (.builtin "object.__class__")))
    (x_NoProgramhm : PySem.W.mroIn K Cx_NoProgram (.type "object") = some true)
    (x_TooLongg : PySem.W.nsIn K mainGlobals "TooLong" = some (some (.ref Cx_TooLong)))
    (x_TooLongex : PySem.W.excIn K Cx_TooLong [.type "ValueError", .type "Exception", .type "BaseException", .type "object"] "ValueError.__new__" = true)
    (x_TooLongkp : PySem.W.keepIn K (.ref Cx_TooLong) = true)
    (x_TooLongsub : PySem.W.subIn K (.ref Cx_TooLong) (.type "BaseException") = some true)
    (x_TooLongty : PySem.W.typeIn K (.ref Cx_TooLong) = some (.type "type"))
    (x_TooLonghg : PySem.W.findIn K (.ref Cx_TooLong) "__getattribute__" = some (some (.builtin "BaseException.__getattribute__")))
    (x_TooLonghk : PySem.W.findIn K (.ref Cx_TooLong) "__getattr__" = some none)
    (x_TooLonghd : PySem.W.hasDictIn K Cx_TooLong = true)
    (x_TooLongha : PySem.W.findIn K (.ref Cx_TooLong) "__class__" = some (some (.builtin "object.__class__")))
    (x_TooLonghm : PySem.W.mroIn K Cx_TooLong (.type "object") = some true)
    (x_NoWorldg : PySem.W.nsIn K mainGlobals "NoWorld" = some (some (.ref Cx_NoWorld)))
    (x_NoWorldex : PySem.W.excIn K Cx_NoWorld [.type "ValueError", .type "Exception", .type "BaseException", .type "object"] "ValueError.__new__" = true)
    (x_NoWorldkp : PySem.W.keepIn K (.ref Cx_NoWorld) = true)
    (x_NoWorldsub : PySem.W.subIn K (.ref Cx_NoWorld) (.type "BaseException") = some true)
    (x_NoWorldty : PySem.W.typeIn K (.ref Cx_NoWorld) = some (.type "type"))
    (x_NoWorldhg : PySem.W.findIn K (.ref Cx_NoWorld) "__getattribute__" = some (some (.builtin "BaseException.__getattribute__")))
    (x_NoWorldhk : PySem.W.findIn K (.ref Cx_NoWorld) "__getattr__" = some none)
    (x_NoWorldhd : PySem.W.hasDictIn K Cx_NoWorld = true)
    (x_NoWorldha : PySem.W.findIn K (.ref Cx_NoWorld) "__class__" = some (some (.builtin "object.__class__")))
    (x_NoWorldhm : PySem.W.mroIn K Cx_NoWorld (.type "object") = some true)
    (x_NoTextg : PySem.W.nsIn K mainGlobals "NoText" = some (some (.ref Cx_NoText)))
    (x_NoTextex : PySem.W.excIn K Cx_NoText [.type "ValueError", .type "Exception", .type "BaseException", .type "object"] "ValueError.__new__" = true)
    (x_NoTextkp : PySem.W.keepIn K (.ref Cx_NoText) = true)
    (x_NoTextsub : PySem.W.subIn K (.ref Cx_NoText) (.type "BaseException") = some true)
    (x_NoTextty : PySem.W.typeIn K (.ref Cx_NoText) = some (.type "type"))
    (x_NoTexthg : PySem.W.findIn K (.ref Cx_NoText) "__getattribute__" = some (some (.builtin "BaseException.__getattribute__")))
    (x_NoTexthk : PySem.W.findIn K (.ref Cx_NoText) "__getattr__" = some none)
    (x_NoTexthd : PySem.W.hasDictIn K Cx_NoText = true)
    (x_NoTextha : PySem.W.findIn K (.ref Cx_NoText) "__class__" = some (some (.builtin "object.__class__")))
    (x_NoTexthm : PySem.W.mroIn K Cx_NoText (.type "object") = some true)
    (x_NoStepg : PySem.W.nsIn K mainGlobals "NoStep" = some (some (.ref Cx_NoStep)))
    (x_NoStepex : PySem.W.excIn K Cx_NoStep [.type "ValueError", .type "Exception", .type "BaseException", .type "object"] "ValueError.__new__" = true)
    (x_NoStepkp : PySem.W.keepIn K (.ref Cx_NoStep) = true)
    (x_NoStepsub : PySem.W.subIn K (.ref Cx_NoStep) (.type "BaseException") = some true)
    (x_NoStepty : PySem.W.typeIn K (.ref Cx_NoStep) = some (.type "type"))
    (x_NoStephg : PySem.W.findIn K (.ref Cx_NoStep) "__getattribute__" = some (some (.builtin "BaseException.__getattribute__")))
    (x_NoStephk : PySem.W.findIn K (.ref Cx_NoStep) "__getattr__" = some none)
    (x_NoStephd : PySem.W.hasDictIn K Cx_NoStep = true)
    (x_NoStepha : PySem.W.findIn K (.ref Cx_NoStep) "__class__" = some (some (.builtin "object.__class__")))
    (x_NoStephm : PySem.W.mroIn K Cx_NoStep (.type "object") = some true)
    (x_NoCellg : PySem.W.nsIn K mainGlobals "NoCell" = some (some (.ref Cx_NoCell)))
    (x_NoCellex : PySem.W.excIn K Cx_NoCell [.type "ValueError", .type "Exception", .type "BaseException", .type "object"] "ValueError.__new__" = true)
    (x_NoCellkp : PySem.W.keepIn K (.ref Cx_NoCell) = true)
    (x_NoCellsub : PySem.W.subIn K (.ref Cx_NoCell) (.type "BaseException") = some true)
    (x_NoCellty : PySem.W.typeIn K (.ref Cx_NoCell) = some (.type "type"))
    (x_NoCellhg : PySem.W.findIn K (.ref Cx_NoCell) "__getattribute__" = some (some (.builtin "BaseException.__getattribute__")))
    (x_NoCellhk : PySem.W.findIn K (.ref Cx_NoCell) "__getattr__" = some none)
    (x_NoCellhd : PySem.W.hasDictIn K Cx_NoCell = true)
    (x_NoCellha : PySem.W.findIn K (.ref Cx_NoCell) "__class__" = some (some (.builtin "object.__class__")))
    (x_NoCellhm : PySem.W.mroIn K Cx_NoCell (.type "object") = some true)
    (x_NoDoorg : PySem.W.nsIn K mainGlobals "NoDoor" = some (some (.ref Cx_NoDoor)))
    (x_NoDoorex : PySem.W.excIn K Cx_NoDoor [.type "ValueError", .type "Exception", .type "BaseException", .type "object"] "ValueError.__new__" = true)
    (x_NoDoorkp : PySem.W.keepIn K (.ref Cx_NoDoor) = true)
    (x_NoDoorsub : PySem.W.subIn K (.ref Cx_NoDoor) (.type "BaseException") = some true)
    (x_NoDoorty : PySem.W.typeIn K (.ref Cx_NoDoor) = some (.type "type"))
    (x_NoDoorhg : PySem.W.findIn K (.ref Cx_NoDoor) "__getattribute__" = some (some (.builtin "BaseException.__getattribute__")))
    (x_NoDoorhk : PySem.W.findIn K (.ref Cx_NoDoor) "__getattr__" = some none)
    (x_NoDoorhd : PySem.W.hasDictIn K Cx_NoDoor = true)
    (x_NoDoorha : PySem.W.findIn K (.ref Cx_NoDoor) "__class__" = some (some (.builtin "object.__class__")))
    (x_NoDoorhm : PySem.W.mroIn K Cx_NoDoor (.type "object") = some true)
    (x_NoWordg : PySem.W.nsIn K mainGlobals "NoWord" = some (some (.ref Cx_NoWord)))
    (x_NoWordex : PySem.W.excIn K Cx_NoWord [.type "ValueError", .type "Exception", .type "BaseException", .type "object"] "ValueError.__new__" = true)
    (x_NoWordkp : PySem.W.keepIn K (.ref Cx_NoWord) = true)
    (x_NoWordsub : PySem.W.subIn K (.ref Cx_NoWord) (.type "BaseException") = some true)
    (x_NoWordty : PySem.W.typeIn K (.ref Cx_NoWord) = some (.type "type"))
    (x_NoWordhg : PySem.W.findIn K (.ref Cx_NoWord) "__getattribute__" = some (some (.builtin "BaseException.__getattribute__")))
    (x_NoWordhk : PySem.W.findIn K (.ref Cx_NoWord) "__getattr__" = some none)
    (x_NoWordhd : PySem.W.hasDictIn K Cx_NoWord = true)
    (x_NoWordha : PySem.W.findIn K (.ref Cx_NoWord) "__class__" = some (some (.builtin "object.__class__")))
    (x_NoWordhm : PySem.W.mroIn K Cx_NoWord (.type "object") = some true)
    (x_RunErrorg : PySem.W.nsIn K mainGlobals "RunError" = some (some (.ref Cx_RunError)))
    (x_RunErrorex : PySem.W.excIn K Cx_RunError [.type "ValueError", .type "Exception", .type "BaseException", .type "object"] "ValueError.__new__" = true)
    (x_RunErrorkp : PySem.W.keepIn K (.ref Cx_RunError) = true)
    (x_RunErrorsub : PySem.W.subIn K (.ref Cx_RunError) (.type "BaseException") = some true)
    (x_RunErrorty : PySem.W.typeIn K (.ref Cx_RunError) = some (.type "type"))
    (x_RunErrorhg : PySem.W.findIn K (.ref Cx_RunError) "__getattribute__" = some (some (.builtin "BaseException.__getattribute__")))
    (x_RunErrorhk : PySem.W.findIn K (.ref Cx_RunError) "__getattr__" = some none)
    (x_RunErrorhd : PySem.W.hasDictIn K Cx_RunError = true)
    (x_RunErrorha : PySem.W.findIn K (.ref Cx_RunError) "__class__" = some (some (.builtin "object.__class__")))
    (x_RunErrorhm : PySem.W.mroIn K Cx_RunError (.type "object") = some true)
    (xhn : PySem.W.specialIn K (.builtin "object.__class__") "__get__" = some (some (.builtin "getset_descriptor.__get__")))
    (xht : PySem.W.takesIn K (.builtin "object.__class__") = some true)
    (kit_NoProgram__NoProgram : PySem.W.kitOne K (.ref Cx_NoProgram) (.ref Cx_NoProgram) = some true)
    (kit_NoProgram__NoRow : PySem.W.kitOne K (.ref Cx_NoProgram) (.ref Cx_NoRow) = some false)
    (kit_NoProgram__TooLong : PySem.W.kitOne K (.ref Cx_NoProgram) (.ref Cx_TooLong) = some false)
    (kit_NoProgram__NoWorld : PySem.W.kitOne K (.ref Cx_NoProgram) (.ref Cx_NoWorld) = some false)
    (kit_NoProgram__NoText : PySem.W.kitOne K (.ref Cx_NoProgram) (.ref Cx_NoText) = some false)
    (kit_NoProgram__NoStep : PySem.W.kitOne K (.ref Cx_NoProgram) (.ref Cx_NoStep) = some false)
    (kit_NoProgram__NoCell : PySem.W.kitOne K (.ref Cx_NoProgram) (.ref Cx_NoCell) = some false)
    (kit_NoProgram__NoDoor : PySem.W.kitOne K (.ref Cx_NoProgram) (.ref Cx_NoDoor) = some false)
    (kit_NoProgram__NoWord : PySem.W.kitOne K (.ref Cx_NoProgram) (.ref Cx_NoWord) = some false)
    (kit_NoRow__NoProgram : PySem.W.kitOne K (.ref Cx_NoRow) (.ref Cx_NoProgram) = some false)
    (kit_NoRow__NoRow : PySem.W.kitOne K (.ref Cx_NoRow) (.ref Cx_NoRow) = some true)
    (kit_NoRow__TooLong : PySem.W.kitOne K (.ref Cx_NoRow) (.ref Cx_TooLong) = some false)
    (kit_NoRow__NoWorld : PySem.W.kitOne K (.ref Cx_NoRow) (.ref Cx_NoWorld) = some false)
    (kit_NoRow__NoText : PySem.W.kitOne K (.ref Cx_NoRow) (.ref Cx_NoText) = some false)
    (kit_NoRow__NoStep : PySem.W.kitOne K (.ref Cx_NoRow) (.ref Cx_NoStep) = some false)
    (kit_NoRow__NoCell : PySem.W.kitOne K (.ref Cx_NoRow) (.ref Cx_NoCell) = some false)
    (kit_NoRow__NoDoor : PySem.W.kitOne K (.ref Cx_NoRow) (.ref Cx_NoDoor) = some false)
    (kit_NoRow__NoWord : PySem.W.kitOne K (.ref Cx_NoRow) (.ref Cx_NoWord) = some false)
    (kit_TooLong__NoProgram : PySem.W.kitOne K (.ref Cx_TooLong) (.ref Cx_NoProgram) = some false)
    (kit_TooLong__NoRow : PySem.W.kitOne K (.ref Cx_TooLong) (.ref Cx_NoRow) = some false)
    (kit_TooLong__TooLong : PySem.W.kitOne K (.ref Cx_TooLong) (.ref Cx_TooLong) = some true)
    (kit_TooLong__NoWorld : PySem.W.kitOne K (.ref Cx_TooLong) (.ref Cx_NoWorld) = some false)
    (kit_TooLong__NoText : PySem.W.kitOne K (.ref Cx_TooLong) (.ref Cx_NoText) = some false)
    (kit_TooLong__NoStep : PySem.W.kitOne K (.ref Cx_TooLong) (.ref Cx_NoStep) = some false)
    (kit_TooLong__NoCell : PySem.W.kitOne K (.ref Cx_TooLong) (.ref Cx_NoCell) = some false)
    (kit_TooLong__NoDoor : PySem.W.kitOne K (.ref Cx_TooLong) (.ref Cx_NoDoor) = some false)
    (kit_TooLong__NoWord : PySem.W.kitOne K (.ref Cx_TooLong) (.ref Cx_NoWord) = some false)
    (kit_NoProgram_T_ValueError : PySem.W.kitOne K (.ref Cx_NoProgram) (.type "ValueError") = some true)
    (kit_NoRow_T_ValueError : PySem.W.kitOne K (.ref Cx_NoRow) (.type "ValueError") = some true)
    (kit_TooLong_T_ValueError : PySem.W.kitOne K (.ref Cx_TooLong) (.type "ValueError") = some true)
    (exm_NoProgram__RunError : PySem.W.exmOne K (.ref Cx_NoProgram) (.ref Cx_RunError) = some true)
    (exm_NoRow__RunError : PySem.W.exmOne K (.ref Cx_NoRow) (.ref Cx_RunError) = some true)
    (exm_TooLong__RunError : PySem.W.exmOne K (.ref Cx_TooLong) (.ref Cx_RunError) = some true)
    : ∃ fd : FuncData, (∀ (s : Shared) (u : Value), BindsTo s fd ⟨[u], []⟩ [("_law_script", u)]) ∧ ∀ base : Heap, K.In base → base.Ns mainGlobals mg → FnOk P w K mg base (L2N.CX P w) 27 fa fd ["_law_script"] (sp_law K) := by
  have T : Txt K mg := { k_BoxPart := ⟨Ck_BoxPart, PySem.W.mg_of X G k_BoxPartg, ⟨k_BoxPartpg, k_BoxParthd, k_BoxPartpo, k_BoxPartsa⟩, k_BoxPartmk, k_BoxPartkp, fun x hx => by cases hx⟩, k_ListPart := ⟨Ck_ListPart, PySem.W.mg_of X G k_ListPartg, ⟨k_ListPartpg, k_ListParthd, k_ListPartpo, k_ListPartsa⟩, k_ListPartmk, k_ListPartkp, fun x hx => by cases hx⟩, k_DoorPart := ⟨Ck_DoorPart, PySem.W.mg_of X G k_DoorPartg, ⟨k_DoorPartpg, k_DoorParthd, k_DoorPartpo, k_DoorPartsa⟩, k_DoorPartmk, k_DoorPartkp, fun x hx => by cases hx⟩, k_FunctionPart := ⟨Ck_FunctionPart, PySem.W.mg_of X G k_FunctionPartg, ⟨k_FunctionPartpg, k_FunctionParthd, k_FunctionPartpo, k_FunctionPartsa⟩, k_FunctionPartmk, k_FunctionPartkp, fun x hx => by cases hx⟩, k_ValuePart := ⟨Ck_ValuePart, PySem.W.mg_of X G k_ValuePartg, ⟨k_ValuePartpg, k_ValueParthd, k_ValuePartpo, k_ValuePartsa⟩, k_ValuePartmk, k_ValuePartkp, fun x hx => by cases hx⟩, k_ValuesPart := ⟨Ck_ValuesPart, PySem.W.mg_of X G k_ValuesPartg, ⟨k_ValuesPartpg, k_ValuesParthd, k_ValuesPartpo, k_ValuesPartsa⟩, k_ValuesPartmk, k_ValuesPartkp, fun x hx => by cases hx⟩, k_RowsPart := ⟨Ck_RowsPart, PySem.W.mg_of X G k_RowsPartg, ⟨k_RowsPartpg, k_RowsParthd, k_RowsPartpo, k_RowsPartsa⟩, k_RowsPartmk, k_RowsPartkp, fun x hx => by cases hx⟩, k_Scope := ⟨Ck_Scope, PySem.W.mg_of X G k_Scopeg, ⟨k_Scopepg, k_Scopehd, k_Scopepo, k_Scopesa⟩, k_Scopemk, k_Scopekp, fun x hx => by simp only [List.mem_cons, List.not_mem_nil, or_false] at hx; rcases hx with rfl | rfl | rfl | rfl; exact k_Scopen_boxes; exact k_Scopen_lists; exact k_Scopen_functions; exact k_Scopen_inside⟩, oi_ValuePart := oi_ValuePart, oi_BoxPart := oi_BoxPart, oi_ListPart := oi_ListPart, oi_DoorPart := oi_DoorPart, oi_FunctionPart := oi_FunctionPart, oi_ValuesPart := oi_ValuesPart, oi_RowsPart := oi_RowsPart, m_Scope___init__ := ⟨FScope___init__, _, atm_Scope___init__, fScope___init__, fun_mk lScope___init__ cScope___init__ kScope___init__⟩, m_BoxPart_fits := ⟨FBoxPart_fits, _, atm_BoxPart_fits, fBoxPart_fits, fun_mk lBoxPart_fits cBoxPart_fits kBoxPart_fits⟩, m_ListPart_fits := ⟨FListPart_fits, _, atm_ListPart_fits, fListPart_fits, fun_mk lListPart_fits cListPart_fits kListPart_fits⟩, m_DoorPart_fits := ⟨FDoorPart_fits, _, atm_DoorPart_fits, fDoorPart_fits, fun_mk lDoorPart_fits cDoorPart_fits kDoorPart_fits⟩, m_FunctionPart_fits := ⟨FFunctionPart_fits, _, atm_FunctionPart_fits, fFunctionPart_fits, fun_mk lFunctionPart_fits cFunctionPart_fits kFunctionPart_fits⟩, m_ValuePart_fits := ⟨FValuePart_fits, _, atm_ValuePart_fits, fValuePart_fits, fun_mk lValuePart_fits cValuePart_fits kValuePart_fits⟩, m_ValuesPart_fits := ⟨FValuesPart_fits, _, atm_ValuesPart_fits, fValuesPart_fits, fun_mk lValuesPart_fits cValuesPart_fits kValuesPart_fits⟩, m_RowsPart_fits := ⟨FRowsPart_fits, _, atm_RowsPart_fits, fRowsPart_fits, fun_mk lRowsPart_fits cRowsPart_fits kRowsPart_fits⟩, n_isinstance := PySem.W.mg_none_of X G n_isinstance, n_str := PySem.W.mg_none_of X G n_str, n_len := PySem.W.mg_none_of X G n_len, c_LONGEST_NAME := ⟨_, PySem.W.mg_of X G c_LONGEST_NAME, ⟨_, rfl⟩⟩, c_LETTERS := ⟨_, PySem.W.mg_of X G c_LETTERS, ⟨_, rfl⟩⟩, n_int := PySem.W.mg_none_of X G n_int, n_bool := PySem.W.mg_none_of X G n_bool, c_GREATEST := ⟨_, PySem.W.mg_of X G c_GREATEST, ⟨_, rfl⟩⟩, n_tuple := PySem.W.mg_none_of X G n_tuple, c_DEEPEST_values := ⟨_, PySem.W.mg_of X G c_DEEPEST_values, ⟨_, rfl⟩⟩, n_list := PySem.W.mg_none_of X G n_list, n_all := PySem.W.mg_none_of X G n_all, n_zip := PySem.W.mg_none_of X G n_zip, c_DEEPEST_programs := ⟨_, PySem.W.mg_of X G c_DEEPEST_programs, ⟨_, rfl⟩⟩, n_set := PySem.W.mg_none_of X G n_set, c_MOST_BOXES := ⟨_, PySem.W.mg_of X G c_MOST_BOXES, ⟨_, rfl⟩⟩, c_MOST_LISTS := ⟨_, PySem.W.mg_of X G c_MOST_LISTS, ⟨_, rfl⟩⟩, c_MOST_THINGS := ⟨_, PySem.W.mg_of X G c_MOST_THINGS, ⟨_, rfl⟩⟩, c_MOST_NAMES := ⟨_, PySem.W.mg_of X G c_MOST_NAMES, ⟨_, rfl⟩⟩, c_MOST_FUNCTIONS := ⟨_, PySem.W.mg_of X G c_MOST_FUNCTIONS, ⟨_, rfl⟩⟩, n_dict := PySem.W.mg_none_of X G n_dict, c_MOST_ROWS := ⟨_, PySem.W.mg_of X G c_MOST_ROWS, ⟨_, rfl⟩⟩, n_ValueError := PySem.W.mg_none_of X G n_ValueError, n_range := PySem.W.mg_none_of X G n_range, x_NoRow := ⟨Cx_NoRow, PySem.W.mg_of X G x_NoRowg, x_NoRowex, x_NoRowkp, x_NoRowsub, x_NoRowty, ⟨x_NoRowhg, x_NoRowhk, x_NoRowsub, x_NoRowhd, x_NoRowha, xhn, xht, x_NoRowhm⟩⟩, x_NoProgram := ⟨Cx_NoProgram, PySem.W.mg_of X G x_NoProgramg, x_NoProgramex, x_NoProgramkp, x_NoProgramsub, x_NoProgramty, ⟨x_NoProgramhg, x_NoProgramhk, x_NoProgramsub, x_NoProgramhd, x_NoProgramha, xhn, xht, x_NoProgramhm⟩⟩, x_TooLong := ⟨Cx_TooLong, PySem.W.mg_of X G x_TooLongg, x_TooLongex, x_TooLongkp, x_TooLongsub, x_TooLongty, ⟨x_TooLonghg, x_TooLonghk, x_TooLongsub, x_TooLonghd, x_TooLongha, xhn, xht, x_TooLonghm⟩⟩, x_NoWorld := ⟨Cx_NoWorld, PySem.W.mg_of X G x_NoWorldg, x_NoWorldex, x_NoWorldkp, x_NoWorldsub, x_NoWorldty, ⟨x_NoWorldhg, x_NoWorldhk, x_NoWorldsub, x_NoWorldhd, x_NoWorldha, xhn, xht, x_NoWorldhm⟩⟩, x_NoText := ⟨Cx_NoText, PySem.W.mg_of X G x_NoTextg, x_NoTextex, x_NoTextkp, x_NoTextsub, x_NoTextty, ⟨x_NoTexthg, x_NoTexthk, x_NoTextsub, x_NoTexthd, x_NoTextha, xhn, xht, x_NoTexthm⟩⟩, x_NoStep := ⟨Cx_NoStep, PySem.W.mg_of X G x_NoStepg, x_NoStepex, x_NoStepkp, x_NoStepsub, x_NoStepty, ⟨x_NoStephg, x_NoStephk, x_NoStepsub, x_NoStephd, x_NoStepha, xhn, xht, x_NoStephm⟩⟩, x_NoCell := ⟨Cx_NoCell, PySem.W.mg_of X G x_NoCellg, x_NoCellex, x_NoCellkp, x_NoCellsub, x_NoCellty, ⟨x_NoCellhg, x_NoCellhk, x_NoCellsub, x_NoCellhd, x_NoCellha, xhn, xht, x_NoCellhm⟩⟩, x_NoDoor := ⟨Cx_NoDoor, PySem.W.mg_of X G x_NoDoorg, x_NoDoorex, x_NoDoorkp, x_NoDoorsub, x_NoDoorty, ⟨x_NoDoorhg, x_NoDoorhk, x_NoDoorsub, x_NoDoorhd, x_NoDoorha, xhn, xht, x_NoDoorhm⟩⟩, x_NoWord := ⟨Cx_NoWord, PySem.W.mg_of X G x_NoWordg, x_NoWordex, x_NoWordkp, x_NoWordsub, x_NoWordty, ⟨x_NoWordhg, x_NoWordhk, x_NoWordsub, x_NoWordhd, x_NoWordha, xhn, xht, x_NoWordhm⟩⟩, x_RunError := ⟨Cx_RunError, PySem.W.mg_of X G x_RunErrorg, x_RunErrorex, x_RunErrorkp, x_RunErrorsub, x_RunErrorty, ⟨x_RunErrorhg, x_RunErrorhk, x_RunErrorsub, x_RunErrorhd, x_RunErrorha, xhn, xht, x_RunErrorhm⟩⟩, kit_NoProgram__NoProgram := kit_NoProgram__NoProgram, kit_NoProgram__NoRow := kit_NoProgram__NoRow, kit_NoProgram__TooLong := kit_NoProgram__TooLong, kit_NoProgram__NoWorld := kit_NoProgram__NoWorld, kit_NoProgram__NoText := kit_NoProgram__NoText, kit_NoProgram__NoStep := kit_NoProgram__NoStep, kit_NoProgram__NoCell := kit_NoProgram__NoCell, kit_NoProgram__NoDoor := kit_NoProgram__NoDoor, kit_NoProgram__NoWord := kit_NoProgram__NoWord, kit_NoRow__NoProgram := kit_NoRow__NoProgram, kit_NoRow__NoRow := kit_NoRow__NoRow, kit_NoRow__TooLong := kit_NoRow__TooLong, kit_NoRow__NoWorld := kit_NoRow__NoWorld, kit_NoRow__NoText := kit_NoRow__NoText, kit_NoRow__NoStep := kit_NoRow__NoStep, kit_NoRow__NoCell := kit_NoRow__NoCell, kit_NoRow__NoDoor := kit_NoRow__NoDoor, kit_NoRow__NoWord := kit_NoRow__NoWord, kit_TooLong__NoProgram := kit_TooLong__NoProgram, kit_TooLong__NoRow := kit_TooLong__NoRow, kit_TooLong__TooLong := kit_TooLong__TooLong, kit_TooLong__NoWorld := kit_TooLong__NoWorld, kit_TooLong__NoText := kit_TooLong__NoText, kit_TooLong__NoStep := kit_TooLong__NoStep, kit_TooLong__NoCell := kit_TooLong__NoCell, kit_TooLong__NoDoor := kit_TooLong__NoDoor, kit_TooLong__NoWord := kit_TooLong__NoWord, kit_NoProgram_T_ValueError := kit_NoProgram_T_ValueError, kit_NoRow_T_ValueError := kit_NoRow_T_ValueError, kit_TooLong_T_ValueError := kit_TooLong_T_ValueError, exm_NoProgram__RunError := exm_NoProgram__RunError, exm_NoRow__RunError := exm_NoRow__RunError, exm_TooLong__RunError := exm_TooLong__RunError }
  have D_is_name : DefAt K mg "is_name" s_is_name := ⟨F0, _, PySem.W.mg_of X G a0, fun_mk l0 c0 k0⟩
  have D_is_number : DefAt K mg "is_number" s_is_number := ⟨F1, _, PySem.W.mg_of X G a1, fun_mk l1 c1 k1⟩
  have D_is_one_of : DefAt K mg "is_one_of" s_is_one_of := ⟨F2, _, PySem.W.mg_of X G a2, fun_mk l2 c2 k2⟩
  have D_values_in : DefAt K mg "values_in" s_values_in := ⟨F3, _, PySem.W.mg_of X G a3, fun_mk l3 c3 k3⟩
  have D_is_plain : DefAt K mg "is_plain" s_is_plain := ⟨F4, _, PySem.W.mg_of X G a4, fun_mk l4 c4 k4⟩
  have D_is_within : DefAt K mg "is_within" s_is_within := ⟨F5, _, PySem.W.mg_of X G a5, fun_mk l5 c5 k5⟩
  have D_is_value : DefAt K mg "is_value" s_is_value := ⟨F6, _, PySem.W.mg_of X G a6, fun_mk l6 c6 k6⟩
  have D_parts_of : DefAt K mg "parts_of" s_parts_of := ⟨F7, _, PySem.W.mg_of X G a7, fun_mk l7 c7 k7⟩
  have D_Scope___init__ := T.m_Scope___init__
  have D_BoxPart_fits := T.m_BoxPart_fits
  have D_ListPart_fits := T.m_ListPart_fits
  have D_DoorPart_fits := T.m_DoorPart_fits
  have D_FunctionPart_fits := T.m_FunctionPart_fits
  have D_ValuePart_fits := T.m_ValuePart_fits
  have D_ValuesPart_fits := T.m_ValuesPart_fits
  have D_RowsPart_fits := T.m_RowsPart_fits
  have D_is_row : DefAt K mg "is_row" s_is_row := ⟨F16, _, PySem.W.mg_of X G a16, fun_mk l16 c16 k16⟩
  have D_is_tuple : DefAt K mg "is_tuple" s_is_tuple := ⟨F17, _, PySem.W.mg_of X G a17, fun_mk l17 c17 k17⟩
  have D_is_pair : DefAt K mg "is_pair" s_is_pair := ⟨F18, _, PySem.W.mg_of X G a18, fun_mk l18 c18 k18⟩
  have D_are_numbers : DefAt K mg "are_numbers" s_are_numbers := ⟨F19, _, PySem.W.mg_of X G a19, fun_mk l19 c19 k19⟩
  have D_are_unlike : DefAt K mg "are_unlike" s_are_unlike := ⟨F20, _, PySem.W.mg_of X G a20, fun_mk l20 c20 k20⟩
  have D_are_names : DefAt K mg "are_names" s_are_names := ⟨F21, _, PySem.W.mg_of X G a21, fun_mk l21 c21 k21⟩
  have D_are_stores : DefAt K mg "are_stores" s_are_stores := ⟨F22, _, PySem.W.mg_of X G a22, fun_mk l22 c22 k22⟩
  have D_is_function : DefAt K mg "is_function" s_is_function := ⟨F23, _, PySem.W.mg_of X G a23, fun_mk l23 c23 k23⟩
  have D_are_functions : DefAt K mg "are_functions" s_are_functions := ⟨F24, _, PySem.W.mg_of X G a24, fun_mk l24 c24 k24⟩
  have D_need_rows : DefAt K mg "need_rows" s_need_rows := ⟨F25, _, PySem.W.mg_of X G a25, fun_mk l25 c25 k25⟩
  have D_rows_within : DefAt K mg "rows_within" s_rows_within := ⟨F26, _, PySem.W.mg_of X G a26, fun_mk l26 c26 k26⟩
  have D_put_rows : DefAt K mg "put_rows" s_put_rows := ⟨F27, _, PySem.W.mg_of X G a27, fun_mk l27 c27 k27⟩
  have D_rows_of : DefAt K mg "rows_of" s_rows_of := ⟨F28, _, PySem.W.mg_of X G a28, fun_mk l28 c28 k28⟩
  have D_program_of : DefAt K mg "program_of" s_program_of := ⟨F29, _, PySem.W.mg_of X G a29, fun_mk l29 c29 k29⟩
  have D__law_cell_at : DefAt K mg "_law_cell_at" s__law_cell_at := ⟨F30, _, PySem.W.mg_of X G a30, fun_mk l30 c30 k30⟩
  have D__law_state : DefAt K mg "_law_state" s__law_state := ⟨F31, _, PySem.W.mg_of X G a31, fun_mk l31 c31 k31⟩
  have D__law_next : DefAt K mg "_law_next" s__law_next := ⟨F32, _, PySem.W.mg_of X G a32, fun_mk l32 c32 k32⟩
  have D__law_class : DefAt K mg "_law_class" s__law_class := ⟨F33, _, PySem.W.mg_of X G a33, fun_mk l33 c33 k33⟩
  have D__law_sizes : DefAt K mg "_law_sizes" s__law_sizes := ⟨F34, _, PySem.W.mg_of X G a34, fun_mk l34 c34 k34⟩
  have D__law_name : DefAt K mg "_law_name" s__law_name := ⟨F35, _, PySem.W.mg_of X G a35, fun_mk l35 c35 k35⟩
  have D__law_value : DefAt K mg "_law_value" s__law_value := ⟨F36, _, PySem.W.mg_of X G a36, fun_mk l36 c36 k36⟩
  have D__law_row : DefAt K mg "_law_row" s__law_row := ⟨F37, _, PySem.W.mg_of X G a37, fun_mk l37 c37 k37⟩
  have D__law_parts : DefAt K mg "_law_parts" s__law_parts := ⟨F38, _, PySem.W.mg_of X G a38, fun_mk l38 c38 k38⟩
  have D__law_due : DefAt K mg "_law_due" s__law_due := ⟨F39, _, PySem.W.mg_of X G a39, fun_mk l39 c39 k39⟩
  have D_law : DefAt K mg "law" s_law := ⟨F40, _, PySem.W.mg_of X G a40, fun_mk l40 c40 k40⟩
  refine law_F D_law bw_law (fun base _ _ => ?_) hfa
  have O_is_name : Own P w K mg base "is_name" 1 ["thing"] (sp_isname) := ok_is_name T D_is_name
  have O_is_number : Own P w K mg base "is_number" 1 ["thing"] (sp_isnum) := ok_is_number T D_is_number
  have O_is_one_of : Own P w K mg base "is_one_of" 1 ["thing", "names"] (sp_oneof) := ok_is_one_of T D_is_one_of
  have O_values_in : Own P w K mg base "values_in" 1 ["word"] (sp_valsin) := ok_values_in T D_values_in
  have O_is_plain : Own P w K mg base "is_plain" 2 ["thing", "boxes", "lists"] (sp_plain) := ok_is_plain T D_is_plain O_is_number O_is_one_of
  have O_is_within : Own P w K mg base "is_within" 8 ["thing", "boxes", "lists", "deep"] (sp_iswithin 5) := ok_is_within T D_is_within O_values_in O_is_plain O_is_one_of 5
  have O_is_value : Own P w K mg base "is_value" 9 ["thing", "boxes", "lists"] (sp_value4) := ok_is_value T D_is_value O_is_within
  have O_parts_of : Own P w K mg base "parts_of" 1 ["word"] (sp_partsof (cs T)) := ok_parts_of T D_parts_of
  have O_Scope___init__ : OwnM P w K mg base T.k_Scope.C "__init__" 1 ["self", "boxes", "lists", "functions", "inside"] (sp_scope T.k_Scope.C) := ok_Scope___init__ T D_Scope___init__
  have O_BoxPart_fits : OwnM P w K mg base T.k_BoxPart.C "fits" 2 ["self", "thing", "scope", "deep"] (sp_fit T.k_Scope.C .box) := ok_BoxPart_fits T D_BoxPart_fits O_is_one_of
  have O_ListPart_fits : OwnM P w K mg base T.k_ListPart.C "fits" 2 ["self", "thing", "scope", "deep"] (sp_fit T.k_Scope.C .list) := ok_ListPart_fits T D_ListPart_fits O_is_one_of
  have O_DoorPart_fits : OwnM P w K mg base T.k_DoorPart.C "fits" 2 ["self", "thing", "scope", "deep"] (sp_fit T.k_Scope.C .door) := ok_DoorPart_fits T D_DoorPart_fits O_is_name
  have O_FunctionPart_fits : OwnM P w K mg base T.k_FunctionPart.C "fits" 2 ["self", "thing", "scope", "deep"] (sp_fit T.k_Scope.C .fn) := ok_FunctionPart_fits T D_FunctionPart_fits O_is_one_of
  have O_ValuePart_fits : OwnM P w K mg base T.k_ValuePart.C "fits" 10 ["self", "thing", "scope", "deep"] (sp_fit T.k_Scope.C .val) := ok_ValuePart_fits T D_ValuePart_fits O_is_value
  have O_ValuesPart_fits : OwnM P w K mg base T.k_ValuesPart.C "fits" 10 ["self", "thing", "scope", "deep"] (sp_fit T.k_Scope.C .vals) := ok_ValuesPart_fits T D_ValuesPart_fits O_is_value
  have O_is_row : Own P w K mg base "is_row" 24 ["thing", "scope", "deep"] (sp_isrow T.k_Scope.C 6) := ok_is_row T D_is_row D_RowsPart_fits O_parts_of O_BoxPart_fits O_ListPart_fits O_DoorPart_fits O_FunctionPart_fits O_ValuePart_fits O_ValuesPart_fits 6
  have O_RowsPart_fits : OwnM P w K mg base T.k_RowsPart.C "fits" 25 ["self", "thing", "scope", "deep"] (sp_fitrows T.k_Scope.C 6) := ok_RowsPart_fits T D_RowsPart_fits 6 O_is_row
  have O_is_tuple : Own P w K mg base "is_tuple" 1 ["thing", "most"] (sp_istup) := ok_is_tuple T D_is_tuple
  have O_is_pair : Own P w K mg base "is_pair" 2 ["thing"] (sp_ispair) := ok_is_pair T D_is_pair O_is_name
  have O_are_numbers : Own P w K mg base "are_numbers" 2 ["thing", "most"] (sp_arenums) := ok_are_numbers T D_are_numbers O_is_tuple O_is_number
  have O_are_unlike : Own P w K mg base "are_unlike" 1 ["names"] (sp_unlike) := ok_are_unlike T D_are_unlike
  have O_are_names : Own P w K mg base "are_names" 2 ["thing", "most"] (sp_arenames) := ok_are_names T D_are_names O_is_tuple O_is_name
  have O_are_stores : Own P w K mg base "are_stores" 3 ["boxes", "lists"] (sp_stores) := ok_are_stores T D_are_stores O_is_tuple O_is_pair O_is_number O_are_numbers O_are_unlike
  have O_is_function : Own P w K mg base "is_function" 3 ["thing", "names"] (sp_isfn) := ok_is_function T D_is_function O_is_name O_are_names O_are_unlike
  have O_are_functions : Own P w K mg base "are_functions" 4 ["thing", "names"] (sp_arefns) := ok_are_functions T D_are_functions O_is_tuple O_is_function O_are_unlike
  have O_need_rows : Own P w K mg base "need_rows" 25 ["rows", "scope"] (sp_needrows T.k_Scope.C T.x_NoRow.C) := ok_need_rows T D_need_rows O_is_row
  have O_rows_within : Own P w K mg base "rows_within" 1 ["row"] (sp_within) := ok_rows_within T D_rows_within
  have O_put_rows : Own P w K mg base "put_rows" 9 ["rows", "around", "found"] (sp_put 7) := ok_put_rows T D_put_rows O_rows_within 7
  have O_rows_of : Own P w K mg base "rows_of" 10 ["program"] (sp_rowsof) := ok_rows_of T D_rows_of O_put_rows
  have O_program_of : Own P w K mg base "program_of" 26 ["boxes", "lists", "functions", "rows"] (sp_progof T.x_NoProgram.C T.x_NoRow.C T.x_TooLong.C) := ok_program_of T D_program_of O_are_stores O_are_functions O_need_rows O_Scope___init__ O_rows_of
  have O__law_cell_at : Own P w K mg base "_law_cell_at" 1 ["_law_script", "_law_k"] (sp_cell K) := ok__law_cell_at T D__law_cell_at
  have O__law_state : Own P w K mg base "_law_state" 1 ["_law_cell", "_law_k"] (sp_state) := ok__law_state T D__law_state
  have O__law_next : Own P w K mg base "_law_next" 1 ["_law_state_here", "_law_size"] (sp_next) := ok__law_next T D__law_next
  have O__law_class : OwnP P w K mg base "_law_class" 1 ["_law_e"] (sp_cls3 T.x_NoProgram.C T.x_NoRow.C T.x_TooLong.C) := ok__law_class T D__law_class
  have O__law_sizes : Own P w K mg base "_law_sizes" 2 ["_law_script"] (sp_sizes K) := ok__law_sizes T D__law_sizes O__law_state O__law_cell_at O__law_next
  have O__law_name : Own P w K mg base "_law_name" 1 ["_law_sizes_here", "_law_k"] (sp_lnm) := ok__law_name T D__law_name
  have O__law_value : Own P w K mg base "_law_value" 1 ["_law_sizes_here"] (sp_lval) := ok__law_value T D__law_value
  have O__law_row : Own P w K mg base "_law_row" 2 ["_law_sizes_here"] (sp_lrw) := ok__law_row T D__law_row O__law_value O__law_name
  have O__law_parts : Own P w K mg base "_law_parts" 3 ["_law_sizes_here"] (sp_lparts) := ok__law_parts T D__law_parts O__law_name O__law_row
  have O__law_due : Own P w K mg base "_law_due" 1 ["_law_sizes_here"] (sp_ldue) := ok__law_due T D__law_due
  exact ok_law T O__law_sizes O__law_parts O__law_due O_rows_of O_program_of O__law_class
theorem walk {l : PySem.W.OpenLaw} {q : Program} {loose : List Str} {XP : (Str → Option Value) → Heap → Prop} {YP : World → Heap → Prop} {d : DefRec} {K : Params → PySem.W.Frag} (hn : l.most = some 63) (hdf : d.params.defaults = [])
    (hY : ∀ (w : World) (h : Heap), YP w h → (K w.params).In h)
    (F : ∀ (w : World) (mg : Str → Option Value) (fa : Addr) (h : Heap), (K w.params).In h → h.Ns mainGlobals mg → mg d.name = some (.ref fa) →
      ∃ fd : FuncData, (∀ (s : Shared) (u : Value), BindsTo s fd ⟨[u], []⟩ [("_law_script", u)]) ∧ ∀ base : Heap, (K w.params).In base → base.Ns mainGlobals mg → FnOk l.prog w (K w.params) mg base (L2N.CX l.prog w) 27 fa fd ["_law_script"] (sp_law (K w.params))) :
    PySem.W.WalkO q loose XP YP l.row.toRowW d [] (fun f vs => PySem.call f vs) :=
  L2.walk_of (n := 63) (k := 27) (x := "_law_script") (CX := fun w => L2N.CX l.prog w) (sp := fun w => (sp_law (K w.params))) hn (by decide) hdf ⟨rfl, by decide, by decide⟩ hY F
    (fun w H a ns hl hO hS => sp_law_start hl hO hS) fun _ _ _ _ _ z => noneN z
end Cl
open PySem PySem.W PyProof.Rows
set_option maxRecDepth 100000 in
set_option maxHeartbeats 0 in
theorem PySem.Challenge.cw_retrace_k05_whole_bounds_holds : PySem.Challenge.rw_retrace_k05_whole_bounds.Holds := by
  w_on; o_law; k_head; (case hw => w_witness2)
  k_fill
  refine Cl.walk (l := PySem.Challenge.rw_retrace_k05_whole_bounds) rfl rfl (fun w h Y => PySem.W.kIn_of Y) ?F
  case F =>
    intro w mg fa h KX G hmg
    refine' Cl.all_mk KX G hmg ?k_BoxPartg ?k_BoxPartpg ?k_BoxParthd ?k_BoxPartpo ?k_BoxPartsa ?k_BoxPartmk ?k_BoxPartkp ?k_ListPartg ?k_ListPartpg ?k_ListParthd ?k_ListPartpo ?k_ListPartsa ?k_ListPartmk ?k_ListPartkp ?k_DoorPartg ?k_DoorPartpg ?k_DoorParthd ?k_DoorPartpo ?k_DoorPartsa ?k_DoorPartmk ?k_DoorPartkp ?k_FunctionPartg ?k_FunctionPartpg ?k_FunctionParthd ?k_FunctionPartpo ?k_FunctionPartsa ?k_FunctionPartmk ?k_FunctionPartkp ?k_ValuePartg ?k_ValuePartpg ?k_ValueParthd ?k_ValuePartpo ?k_ValuePartsa ?k_ValuePartmk ?k_ValuePartkp ?k_ValuesPartg ?k_ValuesPartpg ?k_ValuesParthd ?k_ValuesPartpo ?k_ValuesPartsa ?k_ValuesPartmk ?k_ValuesPartkp ?k_RowsPartg ?k_RowsPartpg ?k_RowsParthd ?k_RowsPartpo ?k_RowsPartsa ?k_RowsPartmk ?k_RowsPartkp ?k_Scopeg ?k_Scopepg ?k_Scopehd ?k_Scopepo ?k_Scopesa ?k_Scopemk ?k_Scopekp ?k_Scopen_boxes ?k_Scopen_lists ?k_Scopen_functions ?k_Scopen_inside ?oi_ValuePart ?oi_BoxPart ?oi_ListPart ?oi_DoorPart ?oi_FunctionPart ?oi_ValuesPart ?oi_RowsPart ?atm_Scope___init__ ?lScope___init__ ?cScope___init__ ?kScope___init__ ?fScope___init__ ?atm_BoxPart_fits ?lBoxPart_fits ?cBoxPart_fits ?kBoxPart_fits ?fBoxPart_fits ?atm_ListPart_fits ?lListPart_fits ?cListPart_fits ?kListPart_fits ?fListPart_fits ?atm_DoorPart_fits ?lDoorPart_fits ?cDoorPart_fits ?kDoorPart_fits ?fDoorPart_fits ?atm_FunctionPart_fits ?lFunctionPart_fits ?cFunctionPart_fits ?kFunctionPart_fits ?fFunctionPart_fits ?atm_ValuePart_fits ?lValuePart_fits ?cValuePart_fits ?kValuePart_fits ?fValuePart_fits ?atm_ValuesPart_fits ?lValuesPart_fits ?cValuesPart_fits ?kValuesPart_fits ?fValuesPart_fits ?atm_RowsPart_fits ?lRowsPart_fits ?cRowsPart_fits ?kRowsPart_fits ?fRowsPart_fits ?a0 ?l0 ?c0 ?k0 ?a1 ?l1 ?c1 ?k1 ?a2 ?l2 ?c2 ?k2 ?a3 ?l3 ?c3 ?k3 ?a4 ?l4 ?c4 ?k4 ?a5 ?l5 ?c5 ?k5 ?a6 ?l6 ?c6 ?k6 ?a7 ?l7 ?c7 ?k7 ?a16 ?l16 ?c16 ?k16 ?a17 ?l17 ?c17 ?k17 ?a18 ?l18 ?c18 ?k18 ?a19 ?l19 ?c19 ?k19 ?a20 ?l20 ?c20 ?k20 ?a21 ?l21 ?c21 ?k21 ?a22 ?l22 ?c22 ?k22 ?a23 ?l23 ?c23 ?k23 ?a24 ?l24 ?c24 ?k24 ?a25 ?l25 ?c25 ?k25 ?a26 ?l26 ?c26 ?k26 ?a27 ?l27 ?c27 ?k27 ?a28 ?l28 ?c28 ?k28 ?a29 ?l29 ?c29 ?k29 ?a30 ?l30 ?c30 ?k30 ?a31 ?l31 ?c31 ?k31 ?a32 ?l32 ?c32 ?k32 ?a33 ?l33 ?c33 ?k33 ?a34 ?l34 ?c34 ?k34 ?a35 ?l35 ?c35 ?k35 ?a36 ?l36 ?c36 ?k36 ?a37 ?l37 ?c37 ?k37 ?a38 ?l38 ?c38 ?k38 ?a39 ?l39 ?c39 ?k39 ?a40 ?l40 ?c40 ?k40 ?n_isinstance ?n_str ?n_len ?c_LONGEST_NAME ?c_LETTERS ?n_int ?n_bool ?c_GREATEST ?n_tuple ?c_DEEPEST_values ?n_list ?n_all ?n_zip ?c_DEEPEST_programs ?n_set ?c_MOST_BOXES ?c_MOST_LISTS ?c_MOST_THINGS ?c_MOST_NAMES ?c_MOST_FUNCTIONS ?n_dict ?c_MOST_ROWS ?n_ValueError ?n_range ?x_NoRowg ?x_NoRowex ?x_NoRowkp ?x_NoRowsub ?x_NoRowty ?x_NoRowhg ?x_NoRowhk ?x_NoRowhd ?x_NoRowha ?x_NoRowhm ?x_NoProgramg ?x_NoProgramex ?x_NoProgramkp ?x_NoProgramsub ?x_NoProgramty ?x_NoProgramhg ?x_NoProgramhk ?x_NoProgramhd ?x_NoProgramha ?x_NoProgramhm ?x_TooLongg ?x_TooLongex ?x_TooLongkp ?x_TooLongsub ?x_TooLongty ?x_TooLonghg ?x_TooLonghk ?x_TooLonghd ?x_TooLongha ?x_TooLonghm ?x_NoWorldg ?x_NoWorldex ?x_NoWorldkp ?x_NoWorldsub ?x_NoWorldty ?x_NoWorldhg ?x_NoWorldhk ?x_NoWorldhd ?x_NoWorldha ?x_NoWorldhm ?x_NoTextg ?x_NoTextex ?x_NoTextkp ?x_NoTextsub ?x_NoTextty ?x_NoTexthg ?x_NoTexthk ?x_NoTexthd ?x_NoTextha ?x_NoTexthm ?x_NoStepg ?x_NoStepex ?x_NoStepkp ?x_NoStepsub ?x_NoStepty ?x_NoStephg ?x_NoStephk ?x_NoStephd ?x_NoStepha ?x_NoStephm ?x_NoCellg ?x_NoCellex ?x_NoCellkp ?x_NoCellsub ?x_NoCellty ?x_NoCellhg ?x_NoCellhk ?x_NoCellhd ?x_NoCellha ?x_NoCellhm ?x_NoDoorg ?x_NoDoorex ?x_NoDoorkp ?x_NoDoorsub ?x_NoDoorty ?x_NoDoorhg ?x_NoDoorhk ?x_NoDoorhd ?x_NoDoorha ?x_NoDoorhm ?x_NoWordg ?x_NoWordex ?x_NoWordkp ?x_NoWordsub ?x_NoWordty ?x_NoWordhg ?x_NoWordhk ?x_NoWordhd ?x_NoWordha ?x_NoWordhm ?x_RunErrorg ?x_RunErrorex ?x_RunErrorkp ?x_RunErrorsub ?x_RunErrorty ?x_RunErrorhg ?x_RunErrorhk ?x_RunErrorhd ?x_RunErrorha ?x_RunErrorhm ?xhn ?xht ?kit_NoProgram__NoProgram ?kit_NoProgram__NoRow ?kit_NoProgram__TooLong ?kit_NoProgram__NoWorld ?kit_NoProgram__NoText ?kit_NoProgram__NoStep ?kit_NoProgram__NoCell ?kit_NoProgram__NoDoor ?kit_NoProgram__NoWord ?kit_NoRow__NoProgram ?kit_NoRow__NoRow ?kit_NoRow__TooLong ?kit_NoRow__NoWorld ?kit_NoRow__NoText ?kit_NoRow__NoStep ?kit_NoRow__NoCell ?kit_NoRow__NoDoor ?kit_NoRow__NoWord ?kit_TooLong__NoProgram ?kit_TooLong__NoRow ?kit_TooLong__TooLong ?kit_TooLong__NoWorld ?kit_TooLong__NoText ?kit_TooLong__NoStep ?kit_TooLong__NoCell ?kit_TooLong__NoDoor ?kit_TooLong__NoWord ?kit_NoProgram_T_ValueError ?kit_NoRow_T_ValueError ?kit_TooLong_T_ValueError ?exm_NoProgram__RunError ?exm_NoRow__RunError ?exm_TooLong__RunError
    (case k_BoxPartg => first | k_is | rfl)
    (case k_BoxPartpg => first | k_is | rfl)
    (case k_BoxParthd => first | k_is | rfl)
    (case k_BoxPartpo => first | k_is | rfl)
    (case k_BoxPartsa => first | k_is | rfl)
    (case k_BoxPartmk => first | k_is | rfl)
    (case k_BoxPartkp => first | k_is | rfl)
    (case k_ListPartg => first | k_is | rfl)
    (case k_ListPartpg => first | k_is | rfl)
    (case k_ListParthd => first | k_is | rfl)
    (case k_ListPartpo => first | k_is | rfl)
    (case k_ListPartsa => first | k_is | rfl)
    (case k_ListPartmk => first | k_is | rfl)
    (case k_ListPartkp => first | k_is | rfl)
    (case k_DoorPartg => first | k_is | rfl)
    (case k_DoorPartpg => first | k_is | rfl)
    (case k_DoorParthd => first | k_is | rfl)
    (case k_DoorPartpo => first | k_is | rfl)
    (case k_DoorPartsa => first | k_is | rfl)
    (case k_DoorPartmk => first | k_is | rfl)
    (case k_DoorPartkp => first | k_is | rfl)
    (case k_FunctionPartg => first | k_is | rfl)
    (case k_FunctionPartpg => first | k_is | rfl)
    (case k_FunctionParthd => first | k_is | rfl)
    (case k_FunctionPartpo => first | k_is | rfl)
    (case k_FunctionPartsa => first | k_is | rfl)
    (case k_FunctionPartmk => first | k_is | rfl)
    (case k_FunctionPartkp => first | k_is | rfl)
    (case k_ValuePartg => first | k_is | rfl)
    (case k_ValuePartpg => first | k_is | rfl)
    (case k_ValueParthd => first | k_is | rfl)
    (case k_ValuePartpo => first | k_is | rfl)
    (case k_ValuePartsa => first | k_is | rfl)
    (case k_ValuePartmk => first | k_is | rfl)
    (case k_ValuePartkp => first | k_is | rfl)
    (case k_ValuesPartg => first | k_is | rfl)
    (case k_ValuesPartpg => first | k_is | rfl)
    (case k_ValuesParthd => first | k_is | rfl)
    (case k_ValuesPartpo => first | k_is | rfl)
    (case k_ValuesPartsa => first | k_is | rfl)
    (case k_ValuesPartmk => first | k_is | rfl)
    (case k_ValuesPartkp => first | k_is | rfl)
    (case k_RowsPartg => first | k_is | rfl)
    (case k_RowsPartpg => first | k_is | rfl)
    (case k_RowsParthd => first | k_is | rfl)
    (case k_RowsPartpo => first | k_is | rfl)
    (case k_RowsPartsa => first | k_is | rfl)
    (case k_RowsPartmk => first | k_is | rfl)
    (case k_RowsPartkp => first | k_is | rfl)
    (case k_Scopeg => first | k_is | rfl)
    (case k_Scopepg => first | k_is | rfl)
    (case k_Scopehd => first | k_is | rfl)
    (case k_Scopepo => first | k_is | rfl)
    (case k_Scopesa => first | k_is | rfl)
    (case k_Scopemk => first | k_is | rfl)
    (case k_Scopekp => first | k_is | rfl)
    (case k_Scopen_boxes => first | k_is | rfl)
    (case k_Scopen_lists => first | k_is | rfl)
    (case k_Scopen_functions => first | k_is | rfl)
    (case k_Scopen_inside => first | k_is | rfl)
    (case oi_ValuePart => first | k_is | rfl)
    (case oi_BoxPart => first | k_is | rfl)
    (case oi_ListPart => first | k_is | rfl)
    (case oi_DoorPart => first | k_is | rfl)
    (case oi_FunctionPart => first | k_is | rfl)
    (case oi_ValuesPart => first | k_is | rfl)
    (case oi_RowsPart => first | k_is | rfl)
    (case atm_Scope___init__ => first | k_is | rfl)
    (case lScope___init__ => first | k_is | rfl)
    (case cScope___init__ => first | k_is | rfl)
    (case kScope___init__ => first | k_is | rfl)
    (case fScope___init__ => first | k_is | rfl)
    (case atm_BoxPart_fits => first | k_is | rfl)
    (case lBoxPart_fits => first | k_is | rfl)
    (case cBoxPart_fits => first | k_is | rfl)
    (case kBoxPart_fits => first | k_is | rfl)
    (case fBoxPart_fits => first | k_is | rfl)
    (case atm_ListPart_fits => first | k_is | rfl)
    (case lListPart_fits => first | k_is | rfl)
    (case cListPart_fits => first | k_is | rfl)
    (case kListPart_fits => first | k_is | rfl)
    (case fListPart_fits => first | k_is | rfl)
    (case atm_DoorPart_fits => first | k_is | rfl)
    (case lDoorPart_fits => first | k_is | rfl)
    (case cDoorPart_fits => first | k_is | rfl)
    (case kDoorPart_fits => first | k_is | rfl)
    (case fDoorPart_fits => first | k_is | rfl)
    (case atm_FunctionPart_fits => first | k_is | rfl)
    (case lFunctionPart_fits => first | k_is | rfl)
    (case cFunctionPart_fits => first | k_is | rfl)
    (case kFunctionPart_fits => first | k_is | rfl)
    (case fFunctionPart_fits => first | k_is | rfl)
    (case atm_ValuePart_fits => first | k_is | rfl)
    (case lValuePart_fits => first | k_is | rfl)
    (case cValuePart_fits => first | k_is | rfl)
    (case kValuePart_fits => first | k_is | rfl)
    (case fValuePart_fits => first | k_is | rfl)
    (case atm_ValuesPart_fits => first | k_is | rfl)
    (case lValuesPart_fits => first | k_is | rfl)
    (case cValuesPart_fits => first | k_is | rfl)
    (case kValuesPart_fits => first | k_is | rfl)
    (case fValuesPart_fits => first | k_is | rfl)
    (case atm_RowsPart_fits => first | k_is | rfl)
    (case lRowsPart_fits => first | k_is | rfl)
    (case cRowsPart_fits => first | k_is | rfl)
    (case kRowsPart_fits => first | k_is | rfl)
    (case fRowsPart_fits => first | k_is | rfl)
    (case a0 => first | k_is | rfl)
    (case l0 => first | k_is | rfl)
    (case c0 => first | k_is | rfl)
    (case k0 => first | k_is | rfl)
    (case a1 => first | k_is | rfl)
    (case l1 => first | k_is | rfl)
    (case c1 => first | k_is | rfl)
    (case k1 => first | k_is | rfl)
    (case a2 => first | k_is | rfl)
    (case l2 => first | k_is | rfl)
    (case c2 => first | k_is | rfl)
    (case k2 => first | k_is | rfl)
    (case a3 => first | k_is | rfl)
    (case l3 => first | k_is | rfl)
    (case c3 => first | k_is | rfl)
    (case k3 => first | k_is | rfl)
    (case a4 => first | k_is | rfl)
    (case l4 => first | k_is | rfl)
    (case c4 => first | k_is | rfl)
    (case k4 => first | k_is | rfl)
    (case a5 => first | k_is | rfl)
    (case l5 => first | k_is | rfl)
    (case c5 => first | k_is | rfl)
    (case k5 => first | k_is | rfl)
    (case a6 => first | k_is | rfl)
    (case l6 => first | k_is | rfl)
    (case c6 => first | k_is | rfl)
    (case k6 => first | k_is | rfl)
    (case a7 => first | k_is | rfl)
    (case l7 => first | k_is | rfl)
    (case c7 => first | k_is | rfl)
    (case k7 => first | k_is | rfl)
    (case a16 => first | k_is | rfl)
    (case l16 => first | k_is | rfl)
    (case c16 => first | k_is | rfl)
    (case k16 => first | k_is | rfl)
    (case a17 => first | k_is | rfl)
    (case l17 => first | k_is | rfl)
    (case c17 => first | k_is | rfl)
    (case k17 => first | k_is | rfl)
    (case a18 => first | k_is | rfl)
    (case l18 => first | k_is | rfl)
    (case c18 => first | k_is | rfl)
    (case k18 => first | k_is | rfl)
    (case a19 => first | k_is | rfl)
    (case l19 => first | k_is | rfl)
    (case c19 => first | k_is | rfl)
    (case k19 => first | k_is | rfl)
    (case a20 => first | k_is | rfl)
    (case l20 => first | k_is | rfl)
    (case c20 => first | k_is | rfl)
    (case k20 => first | k_is | rfl)
    (case a21 => first | k_is | rfl)
    (case l21 => first | k_is | rfl)
    (case c21 => first | k_is | rfl)
    (case k21 => first | k_is | rfl)
    (case a22 => first | k_is | rfl)
    (case l22 => first | k_is | rfl)
    (case c22 => first | k_is | rfl)
    (case k22 => first | k_is | rfl)
    (case a23 => first | k_is | rfl)
    (case l23 => first | k_is | rfl)
    (case c23 => first | k_is | rfl)
    (case k23 => first | k_is | rfl)
    (case a24 => first | k_is | rfl)
    (case l24 => first | k_is | rfl)
    (case c24 => first | k_is | rfl)
    (case k24 => first | k_is | rfl)
    (case a25 => first | k_is | rfl)
    (case l25 => first | k_is | rfl)
    (case c25 => first | k_is | rfl)
    (case k25 => first | k_is | rfl)
    (case a26 => first | k_is | rfl)
    (case l26 => first | k_is | rfl)
    (case c26 => first | k_is | rfl)
    (case k26 => first | k_is | rfl)
    (case a27 => first | k_is | rfl)
    (case l27 => first | k_is | rfl)
    (case c27 => first | k_is | rfl)
    (case k27 => first | k_is | rfl)
    (case a28 => first | k_is | rfl)
    (case l28 => first | k_is | rfl)
    (case c28 => first | k_is | rfl)
    (case k28 => first | k_is | rfl)
    (case a29 => first | k_is | rfl)
    (case l29 => first | k_is | rfl)
    (case c29 => first | k_is | rfl)
    (case k29 => first | k_is | rfl)
    (case a30 => first | k_is | rfl)
    (case l30 => first | k_is | rfl)
    (case c30 => first | k_is | rfl)
    (case k30 => first | k_is | rfl)
    (case a31 => first | k_is | rfl)
    (case l31 => first | k_is | rfl)
    (case c31 => first | k_is | rfl)
    (case k31 => first | k_is | rfl)
    (case a32 => first | k_is | rfl)
    (case l32 => first | k_is | rfl)
    (case c32 => first | k_is | rfl)
    (case k32 => first | k_is | rfl)
    (case a33 => first | k_is | rfl)
    (case l33 => first | k_is | rfl)
    (case c33 => first | k_is | rfl)
    (case k33 => first | k_is | rfl)
    (case a34 => first | k_is | rfl)
    (case l34 => first | k_is | rfl)
    (case c34 => first | k_is | rfl)
    (case k34 => first | k_is | rfl)
    (case a35 => first | k_is | rfl)
    (case l35 => first | k_is | rfl)
    (case c35 => first | k_is | rfl)
    (case k35 => first | k_is | rfl)
    (case a36 => first | k_is | rfl)
    (case l36 => first | k_is | rfl)
    (case c36 => first | k_is | rfl)
    (case k36 => first | k_is | rfl)
    (case a37 => first | k_is | rfl)
    (case l37 => first | k_is | rfl)
    (case c37 => first | k_is | rfl)
    (case k37 => first | k_is | rfl)
    (case a38 => first | k_is | rfl)
    (case l38 => first | k_is | rfl)
    (case c38 => first | k_is | rfl)
    (case k38 => first | k_is | rfl)
    (case a39 => first | k_is | rfl)
    (case l39 => first | k_is | rfl)
    (case c39 => first | k_is | rfl)
    (case k39 => first | k_is | rfl)
    (case a40 => first | k_is | rfl)
    (case l40 => first | k_is | rfl)
    (case c40 => first | k_is | rfl)
    (case k40 => first | k_is | rfl)
    (case n_isinstance => first | k_is | rfl)
    (case n_str => first | k_is | rfl)
    (case n_len => first | k_is | rfl)
    (case c_LONGEST_NAME => first | k_is | rfl)
    (case c_LETTERS => first | k_is | rfl)
    (case n_int => first | k_is | rfl)
    (case n_bool => first | k_is | rfl)
    (case c_GREATEST => first | k_is | rfl)
    (case n_tuple => first | k_is | rfl)
    (case c_DEEPEST_values => first | k_is | rfl)
    (case n_list => first | k_is | rfl)
    (case n_all => first | k_is | rfl)
    (case n_zip => first | k_is | rfl)
    (case c_DEEPEST_programs => first | k_is | rfl)
    (case n_set => first | k_is | rfl)
    (case c_MOST_BOXES => first | k_is | rfl)
    (case c_MOST_LISTS => first | k_is | rfl)
    (case c_MOST_THINGS => first | k_is | rfl)
    (case c_MOST_NAMES => first | k_is | rfl)
    (case c_MOST_FUNCTIONS => first | k_is | rfl)
    (case n_dict => first | k_is | rfl)
    (case c_MOST_ROWS => first | k_is | rfl)
    (case n_ValueError => first | k_is | rfl)
    (case n_range => first | k_is | rfl)
    (case x_NoRowg => first | k_is | rfl)
    (case x_NoRowex => k_exc)
    (case x_NoRowkp => first | k_is | rfl)
    (case x_NoRowsub => first | k_is | rfl)
    (case x_NoRowty => first | k_is | rfl)
    (case x_NoRowhg => first | k_is | rfl)
    (case x_NoRowhk => first | k_is | rfl)
    (case x_NoRowhd => first | k_is | rfl)
    (case x_NoRowha => first | k_is | rfl)
    (case x_NoRowhm => first | k_is | rfl)
    (case x_NoProgramg => first | k_is | rfl)
    (case x_NoProgramex => k_exc)
    (case x_NoProgramkp => first | k_is | rfl)
    (case x_NoProgramsub => first | k_is | rfl)
    (case x_NoProgramty => first | k_is | rfl)
    (case x_NoProgramhg => first | k_is | rfl)
    (case x_NoProgramhk => first | k_is | rfl)
    (case x_NoProgramhd => first | k_is | rfl)
    (case x_NoProgramha => first | k_is | rfl)
    (case x_NoProgramhm => first | k_is | rfl)
    (case x_TooLongg => first | k_is | rfl)
    (case x_TooLongex => k_exc)
    (case x_TooLongkp => first | k_is | rfl)
    (case x_TooLongsub => first | k_is | rfl)
    (case x_TooLongty => first | k_is | rfl)
    (case x_TooLonghg => first | k_is | rfl)
    (case x_TooLonghk => first | k_is | rfl)
    (case x_TooLonghd => first | k_is | rfl)
    (case x_TooLongha => first | k_is | rfl)
    (case x_TooLonghm => first | k_is | rfl)
    (case x_NoWorldg => first | k_is | rfl)
    (case x_NoWorldex => k_exc)
    (case x_NoWorldkp => first | k_is | rfl)
    (case x_NoWorldsub => first | k_is | rfl)
    (case x_NoWorldty => first | k_is | rfl)
    (case x_NoWorldhg => first | k_is | rfl)
    (case x_NoWorldhk => first | k_is | rfl)
    (case x_NoWorldhd => first | k_is | rfl)
    (case x_NoWorldha => first | k_is | rfl)
    (case x_NoWorldhm => first | k_is | rfl)
    (case x_NoTextg => first | k_is | rfl)
    (case x_NoTextex => k_exc)
    (case x_NoTextkp => first | k_is | rfl)
    (case x_NoTextsub => first | k_is | rfl)
    (case x_NoTextty => first | k_is | rfl)
    (case x_NoTexthg => first | k_is | rfl)
    (case x_NoTexthk => first | k_is | rfl)
    (case x_NoTexthd => first | k_is | rfl)
    (case x_NoTextha => first | k_is | rfl)
    (case x_NoTexthm => first | k_is | rfl)
    (case x_NoStepg => first | k_is | rfl)
    (case x_NoStepex => k_exc)
    (case x_NoStepkp => first | k_is | rfl)
    (case x_NoStepsub => first | k_is | rfl)
    (case x_NoStepty => first | k_is | rfl)
    (case x_NoStephg => first | k_is | rfl)
    (case x_NoStephk => first | k_is | rfl)
    (case x_NoStephd => first | k_is | rfl)
    (case x_NoStepha => first | k_is | rfl)
    (case x_NoStephm => first | k_is | rfl)
    (case x_NoCellg => first | k_is | rfl)
    (case x_NoCellex => k_exc)
    (case x_NoCellkp => first | k_is | rfl)
    (case x_NoCellsub => first | k_is | rfl)
    (case x_NoCellty => first | k_is | rfl)
    (case x_NoCellhg => first | k_is | rfl)
    (case x_NoCellhk => first | k_is | rfl)
    (case x_NoCellhd => first | k_is | rfl)
    (case x_NoCellha => first | k_is | rfl)
    (case x_NoCellhm => first | k_is | rfl)
    (case x_NoDoorg => first | k_is | rfl)
    (case x_NoDoorex => k_exc)
    (case x_NoDoorkp => first | k_is | rfl)
    (case x_NoDoorsub => first | k_is | rfl)
    (case x_NoDoorty => first | k_is | rfl)
    (case x_NoDoorhg => first | k_is | rfl)
    (case x_NoDoorhk => first | k_is | rfl)
    (case x_NoDoorhd => first | k_is | rfl)
    (case x_NoDoorha => first | k_is | rfl)
    (case x_NoDoorhm => first | k_is | rfl)
    (case x_NoWordg => first | k_is | rfl)
    (case x_NoWordex => k_exc)
    (case x_NoWordkp => first | k_is | rfl)
    (case x_NoWordsub => first | k_is | rfl)
    (case x_NoWordty => first | k_is | rfl)
    (case x_NoWordhg => first | k_is | rfl)
    (case x_NoWordhk => first | k_is | rfl)
    (case x_NoWordhd => first | k_is | rfl)
    (case x_NoWordha => first | k_is | rfl)
    (case x_NoWordhm => first | k_is | rfl)
    (case x_RunErrorg => first | k_is | rfl)
    (case x_RunErrorex => k_exc)
    (case x_RunErrorkp => first | k_is | rfl)
    (case x_RunErrorsub => first | k_is | rfl)
    (case x_RunErrorty => first | k_is | rfl)
    (case x_RunErrorhg => first | k_is | rfl)
    (case x_RunErrorhk => first | k_is | rfl)
    (case x_RunErrorhd => first | k_is | rfl)
    (case x_RunErrorha => first | k_is | rfl)
    (case x_RunErrorhm => first | k_is | rfl)
    (case xhn => first | k_is | rfl)
    (case xht => first | k_is | rfl)
    (case kit_NoProgram__NoProgram => first | k_is | rfl)
    (case kit_NoProgram__NoRow => first | k_is | rfl)
    (case kit_NoProgram__TooLong => first | k_is | rfl)
    (case kit_NoProgram__NoWorld => first | k_is | rfl)
    (case kit_NoProgram__NoText => first | k_is | rfl)
    (case kit_NoProgram__NoStep => first | k_is | rfl)
    (case kit_NoProgram__NoCell => first | k_is | rfl)
    (case kit_NoProgram__NoDoor => first | k_is | rfl)
    (case kit_NoProgram__NoWord => first | k_is | rfl)
    (case kit_NoRow__NoProgram => first | k_is | rfl)
    (case kit_NoRow__NoRow => first | k_is | rfl)
    (case kit_NoRow__TooLong => first | k_is | rfl)
    (case kit_NoRow__NoWorld => first | k_is | rfl)
    (case kit_NoRow__NoText => first | k_is | rfl)
    (case kit_NoRow__NoStep => first | k_is | rfl)
    (case kit_NoRow__NoCell => first | k_is | rfl)
    (case kit_NoRow__NoDoor => first | k_is | rfl)
    (case kit_NoRow__NoWord => first | k_is | rfl)
    (case kit_TooLong__NoProgram => first | k_is | rfl)
    (case kit_TooLong__NoRow => first | k_is | rfl)
    (case kit_TooLong__TooLong => first | k_is | rfl)
    (case kit_TooLong__NoWorld => first | k_is | rfl)
    (case kit_TooLong__NoText => first | k_is | rfl)
    (case kit_TooLong__NoStep => first | k_is | rfl)
    (case kit_TooLong__NoCell => first | k_is | rfl)
    (case kit_TooLong__NoDoor => first | k_is | rfl)
    (case kit_TooLong__NoWord => first | k_is | rfl)
    (case kit_NoProgram_T_ValueError => first | k_is | rfl)
    (case kit_NoRow_T_ValueError => first | k_is | rfl)
    (case kit_TooLong_T_ValueError => first | k_is | rfl)
    (case exm_NoProgram__RunError => first | k_is | rfl)
    (case exm_NoRow__RunError => first | k_is | rfl)
    (case exm_TooLong__RunError => first | k_is | rfl)
