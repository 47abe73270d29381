import PyProof.Rows.All
import Wide.All
import OpenK.AllK
import Wide.FinOn
import HandS.ForMost
import HandS.ForExc
import HandS.ExcCtx
import HandS.HotCalls
import HandS.ExcIs
import HandS.IsInst
import HandS.Flow
import HandS.SetFor
import HandS.SortInts
import HandS.Conv
import HandS.WideBits
import HandS.TupAny
import HandS.TupMul
import HandS.TupSets
import HandS.Set
import HandS.Strs
import PyProof.Rows.SortStr
import HandS.Deep
import HandS.Text
import HandS.Flow
import HandS.RaiseMore
import HandS.ExcValue
import PyProof.FitsInt
import HandS.DictComp
import HandS.More
import KE.GoesEnum
import KE.GoesZip
import KE.GoesMore
import HandS.DictTup
import HandS.ListItems
import KE.KDictPairs
import HandS.Style
import HandS.ListEq
import PySem.Challenge.RW_retrace_k01_names_numbers_values
set_option Elab.async false
set_option linter.all false
set_option maxRecDepth 100000
set_option maxHeartbeats 4000000
namespace RT
open PySem PySem.Spec PyProof.Rows L2 L2H
/-! ## 1. a def called while an error is held: its promise may speak of that error -/
abbrev SpP := Addr → Value → Option Addr → Sp
structure FnP (P : Program) (w : World) (K : PySem.W.Frag) (mg : Str → Option Value) (base : Heap) (CX : CXT)
    (k : Nat) (f : Addr) (fd : FuncData) (ps : List Str) (sp : SpP) : Prop where
  len : ∀ a c d vs H Q E, sp a c d vs H Q E → vs.length = ps.length
  run : ∀ (A : Around) (outer : List Env) (s : Shared) (H : Hp) (args : Args) (us : List Value) (vs : List V)
    (Q : VK) (E : XK) (e : Addr × Obj) (cls : Value) (d : Option Addr), RoomH k A → Hot1 A e → Zc cls d e.2 → PinOk outer H s e →
    Env0 P w K mg base A outer s H → BindsTo s fd args (ps.zip us) → Vals vs us → sp e.1 cls d vs H Q E →
    codeAny (model P w) A (.call (.ref f) args) (CR CX outer P w H s Q E) s
theorem fn_ofP {CX : CXT} {P : Program} {w : World} {K : PySem.W.Frag} {mg : Str → Option Value} {base : Heap} {k : Nat}
    {f : Addr} {name qual : Str} {params : Arguments} {body : List Stmt} {scope : Scope} {dV kV doc pm cdv ct oc : Value}
    {an od : Option Addr} {osl : Array (Option Value)} {N ps : List Str} {sp : SpP}
    (lk : K.lookup f = some ⟨oc, od, .func (PySem.W.fnOf name qual params body scope dV kV doc pm an cdv ct), osl⟩)
    (hcd : PySem.W.codeIn K cdv qual = true) (S : FnScope N ps scope)
    (len : ∀ a c d vs H Q E, sp a c d vs H Q E → vs.length = ps.length)
    (hbody : ∀ (A : Around) (outer : List Env) (s : Shared) (H : Hp) (vs : List V) (Q : VK) (E : XK) (e : Addr × Obj) (cls : Value) (d : Option Addr),
      Hot1 A e → Zc cls d e.2 → RoomH k (A.deeper (envOfC qual scope s.heap.objs.size f cdv)) → sp e.1 cls d vs H Q E →
      ∃ t, PSs (cxH CX P w K mg base N qual scope f cdv A outer s H E e) body t ∧
        t { nx := fun _ H' => Q .non H', rt := Q } (L2.start N vs) H) :
    FnP P w K mg base CX (k + 1) f (PySem.W.fnOf name qual params body scope dV kV doc pm an cdv ct) ps sp := by
  constructor
  · exact len
  · intro A outer s H args us vs Q E e cls d hr hot hz hpin e0 hb r hsp
    have hl := len _ _ _ _ _ _ _ hsp
    have KX : K.In s.heap := e0.mod.kin.keeps fun b o z => (e0.bs b o z).1
    have lim : s.heap.NoLimit := e0.mod.nolimit.keeps fun b o z => (e0.bs b o z).1
    refine codeAny_call_function hr.depth (KX _ _ lk) rfl S.co S.gen rfl (PySem.W.codeRec_of KX hcd)
      (hb _ _ _ _ ?_)
    refine wpAny_newFunctionEnv_cells S.kind (fun y hy => ?_) fun env he s1 x => ?_
    · obtain ⟨n, v⟩ := y
      rcases S.par n (List.of_mem_zip hy).1 with q | q
      · exact .inl q
      · exact .inr ⟨q, PySem.W.cellsFrom_some _ _ _ (.inl q)⟩
    subst he
    refine ⟨lim.keeps x.toInCall.keep, codeAny_func ?_⟩
    obtain ⟨t, ht, hq⟩ := hbody A outer s H vs Q E e cls d hot hz (hr.deeper _) hsp
    have I := inv_startH (CX := CX) (E := E) S hpin e0 hl r x
    refine wpAny_mono (ht.run [] s1 (L2.start N vs) H _ I hq) (fun fl s' hs => ?_) fun u s' hs => hs
    cases fl with
    | ret u =>
      obtain ⟨v, σ', H', J, rv, q⟩ := hs
      exact ⟨v, H', J.os, J.bare, J.base, J.hok, rv, q⟩
    | next =>
      obtain ⟨σ', H', J, q⟩ := hs
      exact ⟨.non, H', J.os, J.bare, J.base, J.hok, rfl, q⟩
    | brk => exact hs.elim fun _ z => z.elim fun _ z => z.2.elim
    | cont => exact hs.elim fun _ z => z.elim fun _ z => z.2.elim
/-- the suite's own held error, in the callee's eyes -/
theorem pe_callP {X : Cx} {CX : CXT} {k : Nat} {f : Addr} {fd : FuncData} {ps : List Str} {sp : SpP} {E : L2.St → XK}
    {x : Str} {q pos : Pos} {e : Expr} {es : List Expr} {t : TA} {p : Addr × Obj} {cls : Value} {d : Option Addr}
    (F : FnP X.prog X.w X.K X.mg X.base CX k f fd ps sp) (hr : RoomH k X.A) (hot : Hot1 X.A p) (hp : p ∈ X.pn) (hz : Zc cls d p.2)
    (hg : Gl X x) (hm : X.mg x = some (.ref f)) (hk : PySem.W.keepIn X.K (.ref f) = true) (hb : Binds X.K fd ps [])
    (hx : ∀ σ, PassesAt CX X σ (E σ)) (ha : PA X (e :: es) t) (hdb : (x == ("__debug__" : Str)) = false := by decide)
    (he : starEach (e :: es) X.env = (false, eval e X.env) :: starEach es X.env := by rfl)
    (hpl : (backTo pos (starEach es X.env)).any (·.1) = false := by rfl) :
    PE X (.Call (.Name x q) (e :: es) [] pos) (tCallS (sp p.1 cls d) E t) := by
  constructor
  intro pins s σ H Q I h
  refine wpAny_Call_Name_kw (ld_glob I hg hm ?_ hdb)
  refine PySem.W.callWith_K (h₀ := X.base) I.ok.mod.kin hk
    (thn (ha.run pos pins s σ H _ I h) fun us s1 ⟨vs, H1, I1, r, q1⟩ => ⟨I1.kIn, ?_⟩) he hpl
  have hl : us.length = ps.length := by rw [← r.length]; exact F.len _ _ _ _ _ _ _ q1
  have b := hb s1 us I1.kIn (by rw [List.append_nil]; exact hl)
  rw [List.append_nil] at b
  have P1 := I1.pin p (List.mem_append_left _ hp)
  have hpin : PinOk X.stack H1 s1 p := ⟨P1.1, P1.2.1, fun hm1 => by
    rcases List.mem_cons.mp (I1.stkSub p.1 hm1) with z | z
    · exact P1.2.2.1 z
    · exact P1.2.2.2.1 z, P1.2.2.2.2⟩
  refine wpAny_call (codeAny_mono (F.run X.A X.stack s1 H1 ⟨us, []⟩ us vs Q (E σ) p cls d hr hot hz hpin I1.env0 b r q1) fun rr s' hq => ?_)
  cases rr with
  | error u => exact hx σ pins H1 s1 u s' I1 hq
  | ok fl =>
    cases fl with
    | ret u => exact I1.after hq
    | next => exact hq.elim
    | brk => exact hq.elim
    | cont => exact hq.elim
/-- isinstance of an error that is pinned -/
def uIsE (K : PySem.W.Frag) (cls : Value) (d : Option Addr) (a : Addr) : List V → Hp → VK → Prop := fun xs H Q =>
  ∃ (D : Addr) (c : V) (cv : Value) (b : Bool), cls = .ref D ∧ d = none ∧ ExcC K D ∧ xs = [.ref a, c] ∧
    (∀ u, RelV c u → u = cv) ∧ PySem.W.kitOne K (.ref D) cv = some b ∧ Q (.bl b) H
theorem call_isP {X : Cx} {K : PySem.W.Frag} {e : Addr × Obj} {cls : Value} {d : Option Addr} (hp : e ∈ X.pn) (hz : Zc cls d e.2)
    (hf : ∃ vs, e.2.data = .fields vs) (hK : X.K = K := by rfl) : CallR X (.builtin "isinstance") (uIsE K cls d e.1) := by
  subst hK
  intro pins s σ H xs us Q I r h
  obtain ⟨D, c, cv, b, rfl, rfl, C, rfl, hcv, ek, q⟩ := h
  obtain ⟨u1, u2, rfl, r1, r2⟩ := Vals.two r
  obtain rfl := hcv _ r2
  obtain rfl : u1 = Value.ref e.1 := r1
  have hget := (I.pin e (List.mem_append_left _ hp)).1
  obtain ⟨vs, hv⟩ := hf
  have J : PySem.W.InstAt s.heap e.1 e.2 D none := by
    obtain ⟨a, oc, od, oda, osl⟩ := e
    obtain ⟨h1, h2⟩ := hz
    dsimp only at h1 h2 hv hget
    subst h1 h2 hv
    exact ⟨hget, rfl, rfl, trivial⟩
  refine PySem.W.kia_one (PySem.W.handS_kitx_exc C.hg C.hk C.hs C.hd C.ha C.hn C.ht C.hm) I.kIn J ek (fun z => nomatch z) fun tk => ?_
  exact ⟨.bl b, H, I.kept (t' := tk) fun _ _ z => z, rfl, q⟩
/-! ## 2. a def of the text: its body, errors may leave it -/
section
variable {P : Program} {w : World} {K : PySem.W.Frag} {mg : Str → Option Value} {base : Heap}
theorem okN {x qual : Str} {st : Stmt} {f : Addr} {fd : FuncData} {N ps : List Str} {k : Nat} {sp : Sp}
    (F : Fun K x qual st f fd) (S : FnScope N ps (defScope st)) (len : ∀ vs H Q E, sp vs H Q E → vs.length = ps.length)
    (hbody : ∀ (cdv : Value) (A : Around) (outer : List Env) (s : Shared) (H : Hp) (vs : List V) (Q : VK) (E : XK),
      Room k (A.deeper (envOfC qual (defScope st) s.heap.objs.size f cdv)) → sp vs H Q E →
      ∃ t, PSs (cxOf (L2N.CX P w) P w K mg base N qual (defScope st) f cdv A outer s H E) (defBody st) t ∧
        t ⟨fun _ H' => Q .non H', Q, fun _ _ => False, fun _ _ => False⟩ (L2.start N vs) H) :
    FnOk P w K mg base (L2N.CX P w) (k + 1) f fd ps sp := by
  obtain ⟨oc, od, kV, doc, pm, an, cdv, ct, osl, rfl, lk, hcd⟩ := F.ex
  exact fn_of lk hcd S len fun A outer s H vs Q E hr hsp => hbody cdv A outer s H vs Q E hr hsp
theorem okP {x qual : Str} {st : Stmt} {f : Addr} {fd : FuncData} {N ps : List Str} {k : Nat} {sp : SpP}
    (F : Fun K x qual st f fd) (S : FnScope N ps (defScope st)) (len : ∀ a c d vs H Q E, sp a c d vs H Q E → vs.length = ps.length)
    (hbody : ∀ (cdv : Value) (A : Around) (outer : List Env) (s : Shared) (H : Hp) (vs : List V) (Q : VK) (E : XK) (e : Addr × Obj) (cls : Value) (d : Option Addr),
      Hot1 A e → Zc cls d e.2 → RoomH k (A.deeper (envOfC qual (defScope st) s.heap.objs.size f cdv)) → sp e.1 cls d vs H Q E →
      ∃ t, PSs (cxH (L2N.CX P w) P w K mg base N qual (defScope st) f cdv A outer s H E e) (defBody st) t ∧
        t ⟨fun _ H' => Q .non H', Q, fun _ _ => False, fun _ _ => False⟩ (L2.start N vs) H) :
    FnP P w K mg base (L2N.CX P w) (k + 1) f fd ps sp := by
  obtain ⟨oc, od, kV, doc, pm, an, cdv, ct, osl, rfl, lk, hcd⟩ := F.ex
  exact fn_ofP lk hcd S len fun A outer s H vs Q E e cls d hot hz hr hsp => hbody cdv A outer s H vs Q E e cls d hot hz hr hsp
end
/-- nothing is let out -/
theorem passN {X : Cx} : ∀ σ, PassesAt (L2N.CX X.prog X.w) X σ ((fun _ => E0) σ) := by
  intro σ pins H s e s' I h
  obtain ⟨_, _, _, _, _, _, _, _, _, _, _, _, z⟩ := h
  exact z.elim
/-! ## 3. operators that take what comes -/
section
variable {X : Cx} {K : PySem.W.Frag}
def uCnt (K : PySem.W.Frag) : V → List V → Hp → VK → Prop := fun x vs H Q => ∃ (p : Addr) (xs : List V) (y : V),
  x = .ref p ∧ vs = [y] ∧ SqL K H p xs ∧ flatV y = true ∧ xs.all flatV = true ∧ Q (.int (xs.countP fun z => eqV z y : Nat)) H
theorem countP_eqU {x : V} : ∀ {xs : List V} {us : List Value}, Vals xs us → xs.all flatV = true →
    us.countP (eqU x) = xs.countP fun y => eqV y x
  | _, _, .nil, _ => rfl
  | y :: xs, u :: us, .cons r t, f => by
    rw [List.all_cons, Bool.and_eq_true] at f
    rw [List.countP_cons, List.countP_cons, eqU_of r f.1, countP_eqU t f.2]
theorem mt_cnt (hK : X.K = K := by rfl) : MtR X "list.count" (uCnt K) := by
  subst hK
  intro pins s σ H x xs v us Q I rx rxs h
  obtain ⟨p, ys, y, rfl, rfl, hs, fy, fs, q⟩ := h
  cases rx
  obtain ⟨u, rfl, ru⟩ := rxs.one
  obtain ⟨its, rv, ⟨⟨cls, dd, data, sl⟩, n, ho, hc, hdn, hd⟩, hlen⟩ := I.list hs
  simp only at hc hd
  subst hc hd
  refine call_meets PySem.F.slot_list_count ⟨_, ho, rfl⟩ PySem.F.entry_list_count (PySem.F.args_list_count_2 _ _)
    (SeqAt.list_countAt p its.toArray n dd sl u (eqU y))
    ⟨ho, fun z hz => mem_eqAt ru fy rv fs z (by simpa using hz), .int _, H, I.tok _, ⟨s.toks, ?_⟩, q⟩
  show Value.int ((its.countP (eqU y) : Nat) : Int) s.toks = _
  rw [countP_eqU rv fs]
end
end RT

namespace RT
open PySem PySem.Spec PyProof.Rows L2
/-! ## 11. sorted of tuples, by their things from the first on -/
def LexV : List V → List V → Option Bool
  | [], [] => some false
  | [], _ :: _ => some true
  | _ :: _, [] => some false
  | .int i :: xs, .int j :: ys => if i = j then LexV xs ys else some (decide (i < j))
  | .str i :: xs, .str j :: ys => if i = j then LexV xs ys else some (decide (i.cps.toList < j.cps.toList))
  | .ref a :: xs, .ref b :: ys => if a = b then LexV xs ys else none
  | _ :: _, _ :: _ => none
section
variable {prog : Program} {w : World} {A : Around} {E : Value → Shared → Prop} {s : Shared} {Q : Bool → Shared → Prop}
theorem oneLt_strs (c : Bool) {p q : Str} {t u : Tok} (h : Q (decide (p.cps.toList < q.cps.toList)) s) : wpAny (model prog w) A (oneLt' c (.str p t) (.str q u)) Q E s := by
  cases c with
  | true => exact oneLt_str h
  | false => exact PySem.W.kat_one _ _ (PyProof.Rows.lt_str (Q := PySem.W.BoolBack Q) h)
theorem lexV_at {b : Bool} : ∀ {xs ys : List V} {us ws : List Value} (i : Nat) {r fin : Bool}, Vals xs us → Vals ys ws → LexV xs ys = some r → fin = decide (us.length < ws.length) → Q r s → PySem.W.KatLex prog w A b fin Q (us.zip ws) i s
  | [], [], _, _, i, r, fin, .nil, .nil, h, hf, q => by
    cases h
    subst hf
    exact PySem.W.kat_nil q
  | [], _ :: _, _, _, i, r, fin, .nil, .cons _ _, h, hf, q => by
    cases h
    subst hf
    rw [List.zip_nil_left]
    refine PySem.W.kat_nil ?_
    rw [show decide (([] : List Value).length < _) = true from by simp]
    exact q
  | _ :: _, [], _, _, i, r, fin, .cons _ _, .nil, h, hf, q => by
    cases h
    subst hf
    rw [List.zip_nil_right]
    refine PySem.W.kat_nil ?_
    rw [show decide (_ < ([] : List Value).length) = false from by simp]
    exact q
  | x :: xs, y :: ys, u :: us, v :: ws, i, r, fin, .cons rx tx, .cons ry ty, h, hf, q => by
    have hf' : fin = decide (us.length < ws.length) := by rw [hf]; simp
    rw [List.zip_cons_cons]
    cases x <;> cases y
    case int.int p p' =>
      obtain ⟨t, rfl⟩ := rx
      obtain ⟨t', rfl⟩ := ry
      refine PySem.W.kat_cons (SeqAt.EqAt.int_int p t p' t' prog w _ _ ?_)
      simp only [LexV] at h
      refine PySem.W.kat_go (fun e => ?_) (fun e => ?_)
      · have : p = p' := by simpa using e
        rw [if_pos this] at h
        exact PySem.W.kat_yes (lexV_at (i + 1) tx ty h hf' q)
      · have : ¬ p = p' := by simpa using e
        rw [if_neg this] at h
        cases h
        exact PySem.W.kat_no (TS.oneLt_ints _ q)
    case str.str p p' =>
      obtain ⟨t, rfl⟩ := rx
      obtain ⟨t', rfl⟩ := ry
      refine PySem.W.kat_cons (SeqAt.EqAt.str_str p t p' t' prog w _ _ ?_)
      simp only [LexV] at h
      refine PySem.W.kat_go (fun e => ?_) (fun e => ?_)
      · have : p = p' := by simpa using e
        rw [if_pos this] at h
        exact PySem.W.kat_yes (lexV_at (i + 1) tx ty h hf' q)
      · have : ¬ p = p' := by simpa using e
        rw [if_neg this] at h
        cases h
        exact PySem.W.kat_no (oneLt_strs _ q)
    case ref.ref p p' =>
      obtain rfl : u = Value.ref p := rx
      obtain rfl : v = Value.ref p' := ry
      simp only [LexV] at h
      by_cases e : p = p'
      · subst e
        rw [if_pos rfl] at h
        refine PySem.W.kat_cons (SeqAt.EqAt.same _ prog w _ _ ?_)
        exact PySem.W.kat_yes (lexV_at (i + 1) tx ty h hf' q)
      · rw [if_neg e] at h
        cases h
    all_goals cases h
end
theorem swo_bk {lt : V → V → Bool} (O : SrtO.Swo lt) : SrtO.Swo fun v u : Value => lt (bkV v) (bkV u) :=
  ⟨fun x y => O.asym _ _, fun x y z => O.tr _ _ _⟩
/-- sorted of tuples of ints and texts (and of what is one and the same), by their things from the first on -/
def rSortC (K : PySem.W.Frag) : List V → Hp → VK → Prop := fun vs H Q => ∃ (a : Addr) (xs : List V) (k : V → List V) (lt : V → V → Bool), vs = [.ref a] ∧ SqL K H a xs ∧ (∀ x ∈ xs, ∃ t, x = .ref t ∧ SqT K H t (k x)) ∧
  ((∀ x ∈ xs, ∃ z r, k x = .str z :: r) ∨ (∀ x ∈ xs, ∃ z r, k x = .int z :: r)) ∧ SrtO.Swo lt ∧ (∀ x ∈ xs, ∀ y ∈ xs, LexV (k x) (k y) = some (lt x y)) ∧
  ∀ ys p, SrtO.Srtd lt ys → ys.Perm xs → H p = none → Q (.ref p) (upd H p (.lst ys))
def TupAt (h : Heap) (v : Value) (zs : List V) : Prop := ∃ (a : Addr) (its : List Value), v = .ref a ∧ Vals zs its ∧ IsTup h a its.toArray
theorem TupAt.keeps {h h' : Heap} {v : Value} {zs : List V} (p : TupAt h v zs) (k : ∀ b o, h.get? b = some o → o.cls = .type "tuple" → h'.get? b = some o) : TupAt h' v zs := by
  obtain ⟨a, its, rfl, r, o, ho, hc, n, hd⟩ := p
  exact ⟨a, its, rfl, r, o, k a o ho hc, hc, n, hd⟩
theorem firstsC {h : Heap} {f : V → Prop} : ∀ {vs : List Value} {k : Value → List V}, (∀ v ∈ vs, TupAt h v (k v) ∧ ∃ z r, f z ∧ k v = z :: r) →
    ∃ fs : List Value, PySem.W.KatTups h vs fs ∧ fs.length = vs.length ∧ ∀ u ∈ fs, ∃ z, f z ∧ RelV z u
  | [], _, _ => ⟨[], PySem.W.KatTups.nil, rfl, fun _ hm => by simp at hm⟩
  | v :: vs, k, hp => by
    obtain ⟨fs, h1, h2, h3⟩ := firstsC (vs := vs) (k := k) fun v' hm => hp v' (List.mem_cons_of_mem _ hm)
    obtain ⟨⟨a, its, e, r, o, ho, hc, n, hd⟩, z, zs, hz, ek⟩ := hp v (List.mem_cons_self ..)
    subst e
    rw [ek] at r
    cases r with
    | @cons _ u _ us r0 rs =>
      refine ⟨u :: fs, PySem.W.KatTups.cons ho hc hd rfl h1, by rw [List.length_cons, List.length_cons, h2], fun x hm => ?_⟩
      rcases List.mem_cons.mp hm with rfl | hm
      · exact ⟨z, hz, r0⟩
      · exact h3 x hm
theorem cr_sortedC {X : Cx} {K : PySem.W.Frag} (hK : X.K = K := by rfl) : CallR X (.builtin "sorted") (rSortC K) := by
  subst hK
  intro pins s σ H vs us Q I r h
  obtain ⟨a, xs, k, lt, rfl, hs, hx, hf, O, hlt, q⟩ := h
  obtain ⟨its, rv, hl, hz⟩ := I.list hs
  rw [Vals.ref1 r]
  obtain ⟨e1, e2⟩ := bkV_refs rv fun x m => by
    obtain ⟨t, e, _⟩ := hx x m
    exact ⟨t, e⟩
  have hmem : ∀ v ∈ its, bkV v ∈ xs := fun v hv => by rw [e1]; exact List.mem_map.mpr ⟨_, hv, rfl⟩
  have hT : ∀ v ∈ its, TupAt s.heap v (k (bkV v)) := fun v hv => by
    obtain ⟨t, rfl⟩ := e2 v hv
    obtain ⟨t', et, ht⟩ := hx _ (hmem _ hv)
    have et' : t = t' := by
      have : (V.ref t : V) = V.ref t' := et
      injection this
    subst et'
    obtain ⟨ts, rt, p, _⟩ := I.tuple ht
    exact ⟨t, ts, rfl, rt, p⟩
  refine SrtO.sorted_ord (swo_bk O) hl.isList (by rw [← rv.length]; exact hz) (fun h2 h₁ a' ha kk => ?_) fun out h1 h2 => ?_
  · intro h' keep
    have keep2 : ∀ b o, s.heap.get? b = some o → o.cls = .type "tuple" → h'.get? b = some o := fun b o e c => by
      have := kk b o e
      exact keep b o this.1 this.2
    have hT' : ∀ v ∈ its, TupAt h' v (k (bkV v)) := fun v hv => (hT v hv).keeps keep2
    have hc : SrtO.Cmp X.prog X.w X.A.in1.in1 { s with heap := h' } (tuples' true) (fun p => p.1 ∈ its) (SrtO.lt2 fun v u : Value => lt (bkV v) (bkV u)) := by
      intro p q hp hq
      obtain ⟨t, ts, et, rt, o, ho, hc, n, hd⟩ := hT' _ hp
      obtain ⟨t2, ts2, et2, rt2, o2, ho2, hc2, n2, hd2⟩ := hT' _ hq
      have hl := hlt _ (hmem _ hp) _ (hmem _ hq)
      show wpAny _ _ (keyLt' (tuples' true) p.1 q.1) (fun r s' => s' = _ ∧ r = lt (bkV p.1) (bkV q.1)) (fun _ _ => False) _
      generalize lt (bkV p.1) (bkV q.1) = b at hl
      rw [et, et2]
      refine PySem.W.kat_lt ho hd ho2 hd2 ?_
      exact lexV_at 0 rt rt2 hl (by simp) ⟨rfl, rfl⟩
    refine ⟨tuples' true, fun Q' E' hq => ?_, hc⟩
    rcases hf with hf | hf
    · obtain ⟨fs, g1, g2, g3⟩ := firstsC (f := fun z => ∃ y, z = .str y) (k := fun v => k (bkV v)) fun v hv => ⟨hT' v hv, by
        obtain ⟨z, r, e⟩ := hf _ (hmem _ hv)
        exact ⟨_, _, ⟨z, rfl⟩, e⟩⟩
      refine PySem.W.kat_kind (T := .type "str") g1 (by omega) (fun f hm => ?_) (by rfl) ?_
      · obtain ⟨z, ⟨y, rfl⟩, t, rfl⟩ := g3 f hm
        exact PySem.W.Looks.now
      · have e : (Value.type "str" != Value.type "tuple") = true := by first | decide +kernel | rfl | decide
        rw [e]
        exact hq
    · obtain ⟨fs, g1, g2, g3⟩ := firstsC (f := fun z => ∃ y, z = .int y) (k := fun v => k (bkV v)) fun v hv => ⟨hT' v hv, by
        obtain ⟨z, r, e⟩ := hf _ (hmem _ hv)
        exact ⟨_, _, ⟨z, rfl⟩, e⟩⟩
      refine PySem.W.kat_kind (T := .type "int") g1 (by omega) (fun f hm => ?_) (by rfl) ?_
      · obtain ⟨z, ⟨y, rfl⟩, t, rfl⟩ := g3 f hm
        exact PySem.W.Looks.now
      · have e : (Value.type "int" != Value.type "tuple") = true := by first | decide +kernel | rfl | decide
        rw [e]
        exact hq
  · obtain ⟨ep, he'⟩ := PyProof.Rows.sortedAll_at s.heap its out.toArray
    have hp : (out.map bkV).Perm xs := by
      rw [e1]
      exact h2.perm.map bkV
    have h3 : ∀ u ∈ out, ∃ a, u = Value.ref a := fun u hu => e2 u (h2.perm.mem_iff.mp hu)
    have hlen : (out.map bkV).length ≤ sizeLine := by
      rw [hp.length_eq]
      exact hz
    refine ⟨.ref _, upd H (s.heap.objs.size + 1) (.lst (out.map bkV)), I.laid (t' := s.toks) (fun _ _ => PyProof.Rows.sortedAll_old) (Nat.le_succ _) ⟨hlen, out, ep, bkV_vals h3, he'⟩, rfl, q _ _ ?_ hp (I.hok.fresh (Nat.le_succ _))⟩
    exact List.pairwise_map.mpr h1
/-! keys: ints and texts -/
def keyLt : Key → Key → Bool
  | .inl i, .inl j => decide (i < j)
  | .inl _, .inr _ => true
  | .inr _, .inl _ => false
  | .inr x, .inr y => decide (x.cps.toList < y.cps.toList)
def lexK : List Key → List Key → Bool
  | [], [] => false
  | [], _ :: _ => true
  | _ :: _, [] => false
  | x :: xs, y :: ys => if x = y then lexK xs ys else keyLt x y
/-- where they differ first stand things of one kind -/
def likeK : List Key → List Key → Bool
  | .inl i :: xs, .inl j :: ys => if i = j then likeK xs ys else true
  | .inr i :: xs, .inr j :: ys => if i = j then likeK xs ys else true
  | _ :: _, _ :: _ => false
  | _, _ => true
theorem lexV_keys : ∀ {ks ls : List Key}, likeK ks ls = true → LexV (ks.map kV) (ls.map kV) = some (lexK ks ls)
  | [], [], _ => rfl
  | [], _ :: _, _ => rfl
  | _ :: _, [], _ => by rename_i x xs _; cases x <;> rfl
  | .inl i :: xs, .inl j :: ys, h => by
    by_cases e : i = j
    · subst e
      have h' : likeK xs ys = true := by simpa [likeK] using h
      simp [LexV, lexK, kV, lexV_keys h']
    · simp [LexV, lexK, kV, keyLt, e]
  | .inr i :: xs, .inr j :: ys, h => by
    by_cases e : i = j
    · subst e
      have h' : likeK xs ys = true := by simpa [likeK] using h
      simp [LexV, lexK, kV, lexV_keys h']
    · simp [LexV, lexK, kV, keyLt, e]
  | .inl i :: xs, .inr j :: ys, h => by simp [likeK] at h
  | .inr i :: xs, .inl j :: ys, h => by simp [likeK] at h
theorem str_lt_tri {x y : Str} (h : x ≠ y) : x.cps.toList < y.cps.toList ∨ y.cps.toList < x.cps.toList := by
  have h' : x.cps.toList ≠ y.cps.toList := fun e => h (by cases x; cases y; simp only [Str.mk.injEq]; exact Array.toList_inj.mp e)
  rcases Nat.lt_or_ge 0 1 with _ | _
  · rcases Classical.em (x.cps.toList < y.cps.toList) with c | c
    · exact .inl c
    · rcases Classical.em (y.cps.toList < x.cps.toList) with d | d
      · exact .inr d
      · exact absurd (List.le_antisymm (List.not_lt.mp d) (List.not_lt.mp c)) h'
  · omega
theorem keyLt_irrefl (x : Key) : keyLt x x = false := by
  cases x with
  | inl i => simp [keyLt]
  | inr z => simp [keyLt, List.lt_irrefl]
theorem keyLt_tri {x y : Key} (h : x ≠ y) : keyLt x y = true ∨ keyLt y x = true := by
  cases x <;> cases y
  · rename_i i j
    have : i ≠ j := fun e => h (by rw [e])
    simp only [keyLt, decide_eq_true_eq]; omega
  · exact .inl rfl
  · exact .inr rfl
  · rename_i i j
    have : i ≠ j := fun e => h (by rw [e])
    simp only [keyLt, decide_eq_true_eq]; exact str_lt_tri this
theorem keyLt_trans {x y z : Key} (h1 : keyLt x y = true) (h2 : keyLt y z = true) : keyLt x z = true := by
  cases x <;> cases y <;> cases z <;> simp_all only [keyLt, decide_eq_true_eq] <;> first | omega | exact List.lt_trans h1 h2 | cases h1 | cases h2
theorem keyLt_asym {x y : Key} (h1 : keyLt x y = true) : keyLt y x = false := by
  cases h : keyLt y x with
  | false => rfl
  | true => have := keyLt_trans h1 h; rw [keyLt_irrefl] at this; cases this
theorem lexK_irrefl : ∀ ks : List Key, lexK ks ks = false
  | [] => rfl
  | x :: xs => by simp [lexK, lexK_irrefl xs]
theorem lexK_tri : ∀ {ks ls : List Key}, ks ≠ ls → lexK ks ls = true ∨ lexK ls ks = true
  | [], [], h => absurd rfl h
  | [], _ :: _, _ => .inl rfl
  | _ :: _, [], _ => .inr rfl
  | x :: xs, y :: ys, h => by
    by_cases e : x = y
    · subst e
      have : xs ≠ ys := fun z => h (by rw [z])
      simpa [lexK] using lexK_tri this
    · have e' : ¬ y = x := fun z => e z.symm
      simpa [lexK, e, e'] using keyLt_tri e
theorem lexK_trans : ∀ {ks ls ms : List Key}, lexK ks ls = true → lexK ls ms = true → lexK ks ms = true
  | [], [], _, h, _ => by cases h
  | _ :: _, [], _, h, _ => by cases h
  | _, _ :: _, [], _, h => by cases h
  | [], _ :: _, _ :: _, _, _ => rfl
  | x :: xs, y :: ys, z :: zs, h1, h2 => by
    simp only [lexK] at h1 h2 ⊢
    by_cases e1 : x = y
    · subst e1
      rw [if_pos rfl] at h1
      by_cases e2 : x = z
      · subst e2
        rw [if_pos rfl] at h2 ⊢
        exact lexK_trans h1 h2
      · rw [if_neg e2] at h2 ⊢
        exact h2
    · rw [if_neg e1] at h1
      by_cases e2 : y = z
      · subst e2
        rw [if_neg e1]
        exact h1
      · rw [if_neg e2] at h2
        have h3 := keyLt_trans h1 h2
        by_cases e3 : x = z
        · subst e3; rw [keyLt_irrefl] at h3; cases h3
        · rw [if_neg e3]; exact h3
theorem lexK_asym {ks ls : List Key} (h : lexK ks ls = true) : lexK ls ks = false := by
  cases h' : lexK ls ks with
  | false => rfl
  | true => have := lexK_trans h h'; rw [lexK_irrefl] at this; cases this
theorem swo_lexK {α : Type} (f : α → List Key) : SrtO.Swo fun x y => lexK (f x) (f y) := by
  refine ⟨fun x y h => lexK_asym h, fun x y z h1 h2 => ?_⟩
  cases h : lexK (f z) (f x) with
  | false => rfl
  | true =>
    by_cases e : f x = f y
    · rw [e] at h; rw [h] at h2; cases h2
    · rcases lexK_tri e with c | c
      · rw [lexK_trans h c] at h2; cases h2
      · rw [c] at h1; cases h1
end RT

/-! ## 13. dicts with keys that are tuples: == -/
namespace PySem.W
open PySem PySem.Calls PyProof.Rows PySem.Spec
section
variable {prog : Program} {w : World} {K : Type} [DecidableEq K] {knd : HeapKind prog w K} {A : Around} {E : Value → Shared → Prop} {s : Shared}
theorem rt_samePairs {nm : String} {a b : Addr} {ka kb : List (K × Addr × Value)} {Q : Bool → Shared → Prop} (ha : (a == sysModules) = false) (hb : (b == sysModules) = false) (hu : knd.room A)
    (da : s.heap.DictOfH knd a ka) (db : s.heap.DictOfH knd b kb) (hl : ka.length = kb.length) (hits : ∀ x ∈ ka, ∃ p, atKey kb x.1 = some p ∧ SeqAt.EqAt A s x.2.2 p.2 true) (h : Q true s) :
    wpAny (model prog w) A (Builtin.Dict.samePairs nm a b) Q E s := by
  obtain ⟨oa, es, ep, hoa, _, hda, hka, hia, hna⟩ := da
  obtain ⟨ob, es', ep', hob, _, hdb, hkb, hib, hnb⟩ := db
  have hla : es.size = ka.length := size_of_entries hka
  have hlb : es'.size = kb.length := size_of_entries hkb
  unfold Builtin.Dict.samePairs Builtin.Dict.showsAll
  rw [if_neg (show ¬ (a == sysModules) = true by rw [ha]; exact Bool.false_ne_true), if_neg (show ¬ (b == sysModules) = true by rw [hb]; exact Bool.false_ne_true)]
  refine wpAny_bind (wpAny_pure (wpAny_bind (wpAny_pure ?_)))
  refine wpAny_bind (wpAny_dictEntries hoa hda ?_)
  dsimp only
  refine wpAny_bind (wpAny_dictEntries hob hdb ?_)
  have hsz : es.size = es'.size := by omega
  rw [if_neg (by rw [hsz]; simp)]
  refine wpAny_bind (wpAny_dictEpoch hoa hda ?_)
  refine wpAny_bind ?_
  rw [Std.Legacy.Range.forIn_eq_forIn_range']
  simp only [Std.Legacy.Range.size, Nat.sub_zero, Nat.add_sub_cancel, Nat.div_one]
  refine wpAny_forIn_list _
    (fun rest q s' => s' = s ∧ q = (none, ()) ∧ ∃ i, rest = List.range' i (es.size - i) ∧ i ≤ es.size)
    _ ?_ ?_ _ _ ⟨rfl, rfl, 0, by simp, Nat.zero_le _⟩
  · rintro x rest q s' ⟨rfl, rfl, i, hr, hi⟩
    have hlt : i < es.size := by
      rcases Nat.lt_or_ge i es.size with h | h
      · exact h
      · rw [Nat.sub_eq_zero_of_le h] at hr; simp at hr
    obtain ⟨rfl, hrest⟩ : x = i ∧ rest = List.range' (i + 1) (es.size - (i + 1)) := by
      have e : es.size - i = (es.size - (i + 1)) + 1 := by omega
      rw [e, List.range'_succ] at hr
      injection hr with h1 h2
      exact ⟨h1, h2⟩
    refine wpAny_bind (wpAny_dictEntries hoa hda ?_)
    have hlt' : x < ka.length := by rw [← hla]; exact hlt
    rw [entry_at hka x, List.getElem?_eq_getElem hlt']
    obtain ⟨k, c, v, hkv⟩ : ∃ k c v, ka[x] = (k, c, v) := ⟨_, _, _, rfl⟩
    rw [hkv]
    have hmem : (k, c, v) ∈ ka := by rw [← hkv]; exact List.getElem_mem hlt'
    have hkey := hia _ hmem
    obtain ⟨p, hp, he⟩ := hits _ hmem
    show wpAny _ _ (holding [.ref c, v] _ >>= _) _ _ _
    refine wpAny_bind (wpAny_holding (wpAny_bind (wpAny_dictFind_heap hu hkey hob hdb hkb hib hnb (fun hno => ?_) (fun j p' hj => ?_))))
    · rw [atKey_none_of_get hno] at hp
      cases hp
    · have hp' := atKey_of_get hnb hj
      have ep' : p' = p := Option.some.inj (hp'.symm.trans hp)
      subst ep'
      refine wpAny_bind (wpAny_dictEntries hob hdb ?_)
      rw [entry_at hkb j, hj]
      refine wpAny_holding (he prog w _ _ ?_)
      show wpAny _ _ (if (!true) = true then _ else _) _ _ _
      rw [if_neg (by decide)]
      refine wpAny_bind (wpAny_dictEpoch hoa hda ?_)
      rw [if_neg (by simp)]
      exact wpAny_pure ⟨rfl, rfl, x + 1, hrest, hlt⟩
  · rintro q s' ⟨rfl, rfl, i, hr, hi⟩
    exact wpAny_pure h
theorem rt_eqH {a b : Addr} {ka kb : List (K × Addr × Value)} {Q : Value → Shared → Prop} (ha : (a == sysModules) = false) (hb : (b == sysModules) = false) (hr : knd.room A.in1)
    (da : s.heap.DictOfH knd a ka) (db : s.heap.DictOfH knd b kb) (hu : A.units < cLine) (hl : ka.length = kb.length) (hits : ∀ x ∈ ka, ∃ p, atKey kb x.1 = some p ∧ SeqAt.EqAt A.in1 s x.2.2 p.2 true) (h : Q (.bool true) s) :
    wpAny (model prog w) A (compareOp .Eq (.ref a) (.ref b)) Q E s := by
  refine wpAny_richCompare_same_room (op := .Eq) da.typeIs db.typeIs PySem.F.slot_dict_eq (wpAny_call_entry PySem.F.slot_dict_eq da.typeIs PySem.F.entry_dict_eq ?_ (PySem.F.args_dict_eq_2 _ _)) hu
  show wpAny _ _ (Builtin.Dict.dictSlotArgs "__eq__" ⟨[.ref a, .ref b], []⟩ >>= _) _ _ s
  refine wpAny_bind ?_
  unfold Builtin.Dict.dictSlotArgs
  refine wpAny_bind (wpAny_notOrdered_dict da.typeIs ?_)
  show wpAny _ _ (pure (Value.ref a, Value.ref b)) _ _ s
  refine wpAny_pure ?_
  refine wpAny_bind (wpAny_isInstance (T := "dict") db.typeIs PySem.F.sub_dict_dict ?_)
  simp only [Bool.not_true, Bool.false_eq_true, if_false]
  refine wpAny_bind (wpAny_pure (wpAny_bind (wpAny_pure ?_)))
  refine wpAny_bind (rt_samePairs ha hb hr da db hl hits ?_)
  refine wpAny_pure ⟨_, rfl, ?_, ?_⟩
  · exact fun x => nomatch x
  · simpa using h
theorem rt_neH {a b : Addr} {ka kb : List (K × Addr × Value)} {Q : Value → Shared → Prop} (ha : (a == sysModules) = false) (hb : (b == sysModules) = false) (hr : knd.room A.in1)
    (da : s.heap.DictOfH knd a ka) (db : s.heap.DictOfH knd b kb) (hu : A.units < cLine) (hl : ka.length = kb.length) (hits : ∀ x ∈ ka, ∃ p, atKey kb x.1 = some p ∧ SeqAt.EqAt A.in1 s x.2.2 p.2 true) (h : Q (.bool false) s) :
    wpAny (model prog w) A (compareOp .NotEq (.ref a) (.ref b)) Q E s := by
  refine wpAny_richCompare_same_room (op := .NotEq) da.typeIs db.typeIs PySem.F.slot_dict_ne (wpAny_call_entry PySem.F.slot_dict_ne da.typeIs PySem.F.entry_dict_ne ?_ (PySem.F.args_dict_ne_2 _ _)) hu
  show wpAny _ _ (Builtin.Dict.dictSlotArgs "__ne__" ⟨[.ref a, .ref b], []⟩ >>= _) _ _ s
  refine wpAny_bind ?_
  unfold Builtin.Dict.dictSlotArgs
  refine wpAny_bind (wpAny_notOrdered_dict da.typeIs ?_)
  show wpAny _ _ (pure (Value.ref a, Value.ref b)) _ _ s
  refine wpAny_pure ?_
  refine wpAny_bind (wpAny_isInstance (T := "dict") db.typeIs PySem.F.sub_dict_dict ?_)
  simp only [Bool.not_true, Bool.false_eq_true, if_false]
  refine wpAny_bind (wpAny_pure (wpAny_bind (wpAny_pure ?_)))
  refine wpAny_bind (rt_samePairs ha hb hr da db hl hits ?_)
  refine wpAny_pure ⟨_, rfl, ?_, ?_⟩
  · exact fun x => nomatch x
  · simpa using h
end
end PySem.W
namespace RT
open PySem PySem.Spec PyProof.Rows L2
def rEqT (neg : Bool) : R2 := fun x y H Q => ∃ a b ks ls, x = .ref a ∧ y = .ref b ∧ H a = some (.dT ks) ∧ H b = some (.dT ls) ∧ ks.length = ls.length ∧ (∀ p ∈ ks, valV ls p.1 = some p.2 ∧ flatB p.2 = true) ∧ Q (.bl (!neg)) H
theorem hitsT {A : Around} {s : Shared} {H : Hp} {ks ls : List (List Key × V)} {ya yb : List (List Key × Addr × Value)} (rb : L2.KT H ls yb) (ra : L2.KT H ks ya) :
    (∀ p ∈ ks, valV ls p.1 = some p.2 ∧ flatB p.2 = true) → ∀ x ∈ ya, ∃ p, atKey yb x.1 = some p ∧ SeqAt.EqAt A s x.2.2 p.2 true := by
  unfold L2.KT at ra
  induction ra with
  | nil => intro _ x hx; cases hx
  | @cons p q ps qs h t ih =>
    intro hp x hx
    obtain ⟨h1, _, h2⟩ := h
    rcases List.mem_cons.mp hx with rfl | hx
    · obtain ⟨e, f⟩ := hp p List.mem_cons_self
      have rr : RelO (some p.2) ((atKey yb p.1).map (·.2)) := by rw [← e]; exact rb.val p.1
      obtain ⟨y, hy, ry⟩ := rr.some_of
      obtain ⟨p', hp', e'⟩ := Option.map_eq_some_iff.mp hy
      rw [← h1]
      refine ⟨p', hp', ?_⟩
      rw [e']
      exact eqAt_same h2 ry f
    · exact ih (fun p' hm => hp p' (List.mem_cons_of_mem _ hm)) x hx
theorem KTlen {H : Hp} {ks : List (List Key × V)} {ya : List (List Key × Addr × Value)} (ra : L2.KT H ks ya) : ks.length = ya.length := Paired.length ra
theorem op_eqT {X : Cx} (hu : X.A.units + 1 < cLine) : OpR X (compareOp .Eq) (rEqT false) := by
  intro pins s σ H x y v u Q I rx ry h
  obtain ⟨a, b, ks, ls, rfl, rfl, ea, eb, hlen, hp, q⟩ := h
  obtain rfl : v = Value.ref a := rx
  obtain rfl : u = Value.ref b := ry
  obtain ⟨_, za, ya, ra, da⟩ := dt_of I.hok ea
  obtain ⟨_, zb, yb, rb, db⟩ := dt_of I.hok eb
  exact PySem.W.rt_eqH za zb (tupleKind_room_in1 hu) da db (by omega) (by rw [← KTlen ra, ← KTlen rb]; exact hlen) (hitsT rb ra hp) (fin_bl I q rfl)
theorem op_neT {X : Cx} (hu : X.A.units + 1 < cLine) : OpR X (compareOp .NotEq) (rEqT true) := by
  intro pins s σ H x y v u Q I rx ry h
  obtain ⟨a, b, ks, ls, rfl, rfl, ea, eb, hlen, hp, q⟩ := h
  obtain rfl : v = Value.ref a := rx
  obtain rfl : u = Value.ref b := ry
  obtain ⟨_, za, ya, ra, da⟩ := dt_of I.hok ea
  obtain ⟨_, zb, yb, rb, db⟩ := dt_of I.hok eb
  exact PySem.W.rt_neH za zb (tupleKind_room_in1 hu) da db (by omega) (by rw [← KTlen ra, ← KTlen rb]; exact hlen) (hitsT rb ra hp) (fin_bl I q rfl)
end RT

namespace RT
open PySem PySem.Spec PyProof.Rows L2
/-! ## 4. defs of the text, by name, with their promises -/
structure DefAt (K : PySem.W.Frag) (mg : Str → Option Value) (x : Str) (st : Stmt) : Prop where
  ex : ∃ f fd, mg x = some (.ref f) ∧ Fun K x x st f fd
structure Own (P : Program) (w : World) (K : PySem.W.Frag) (mg : Str → Option Value) (base : Heap) (x : Str) (k : Nat) (ps : List Str) (sp : Sp) : Prop where
  ex : ∃ f fd, mg x = some (.ref f) ∧ PySem.W.keepIn K (.ref f) = true ∧ Binds K fd ps [] ∧ FnOk P w K mg base (L2N.CX P w) k f fd ps sp
structure OwnP (P : Program) (w : World) (K : PySem.W.Frag) (mg : Str → Option Value) (base : Heap) (x : Str) (k : Nat) (ps : List Str) (sp : SpP) : Prop where
  ex : ∃ f fd, mg x = some (.ref f) ∧ PySem.W.keepIn K (.ref f) = true ∧ Binds K fd ps [] ∧ FnP P w K mg base (L2N.CX P w) k f fd ps sp
section
variable {P : Program} {w : World} {K : PySem.W.Frag} {mg : Str → Option Value} {base : Heap}
abbrev BindW (st : Stmt) (x : Str) (ps : List Str) : Prop := ∀ (kV doc pm : Value) (an : Option Addr) (cdv ct : Value) (us : List Value),
  us.length = ps.length → bindArgs (PySem.W.fnOf x x (defArgs st) (defBody st) (defScope st) .none kV doc pm an cdv ct) ⟨us, []⟩ = pure (ps.zip us)
def FnW (P : Program) (w : World) (K : PySem.W.Frag) (mg : Str → Option Value) (base : Heap) (x : Str) (st : Stmt) (k : Nat) (ps : List Str) (sp : Sp) : Prop :=
  ∀ f fd, Fun K x x st f fd → FnOk P w K mg base (L2N.CX P w) k f fd ps sp
theorem fnW_of {x : Str} {st : Stmt} {N ps : List Str} {k : Nat} {sp : Sp}
    (S : FnScope N ps (defScope st)) (len : ∀ vs H Q E, sp vs H Q E → vs.length = ps.length)
    (hbody : ∀ (f : Addr) (cdv : Value) (A : Around) (outer : List Env) (s : Shared) (H : Hp) (vs : List V) (Q : VK) (E : XK),
      Room k (A.deeper (envOfC x (defScope st) s.heap.objs.size f cdv)) → sp vs H Q E →
      ∃ t, PSs (cxOf (L2N.CX P w) P w K mg base N x (defScope st) f cdv A outer s H E) (defBody st) t ∧
        t ⟨fun _ H' => Q .non H', Q, fun _ _ => False, fun _ _ => False⟩ (L2.start N vs) H) :
    FnW P w K mg base x st (k + 1) ps sp := fun f fd F => okN F S len (hbody f)
theorem own_of {x : Str} {st : Stmt} {ps : List Str} {k : Nat} {sp : Sp} (D : DefAt K mg x st) (hb : BindW st x ps)
    (h : FnW P w K mg base x st k ps sp) : Own P w K mg base x k ps sp := by
  obtain ⟨f, fd, hm, F⟩ := D.ex
  exact ⟨f, fd, hm, F.kp, F.binds hb, h f fd F⟩
theorem law_F {st : Stmt} {x : Str} {k : Nat} {sp : Sp} {fa : Addr} (D : DefAt K mg "law" st) (hb : BindW st "law" [x])
    (h : ∀ base : Heap, K.In base → base.Ns mainGlobals mg → FnW P w K mg base "law" st k [x] sp) (hfa : mg "law" = some (.ref fa)) :
    ∃ fd : FuncData, (∀ (s : Shared) (u : Value), BindsTo s fd ⟨[u], []⟩ [(x, u)]) ∧
      ∀ base : Heap, K.In base → base.Ns mainGlobals mg → FnOk P w K mg base (L2N.CX P w) k fa fd [x] sp := by
  obtain ⟨f, fd, hm, F⟩ := D.ex
  have e := hfa.symm.trans hm
  cases e
  refine ⟨fd, fun s u => ?_, fun base h1 h2 => h base h1 h2 _ _ F⟩
  obtain ⟨oc, od, kV, doc, pm, an, cdv, ct, osl, rfl, lk, hcd⟩ := F.ex
  exact .of_eq (hb kV doc pm an cdv ct [u] rfl)
theorem noneN {P : Program} {w : World} {H : Hp} {s : Shared} {e : Value} {s' : Shared} (h : L2N.CX P w [] H s (fun _ _ _ => False) e s') : False := by
  obtain ⟨_, _, _, _, _, _, _, _, _, _, _, _, z⟩ := h
  exact z
theorem ownP_of {x : Str} {st : Stmt} {N ps : List Str} {k : Nat} {sp : SpP} (D : DefAt K mg x st) (hb : BindW st x ps)
    (S : FnScope N ps (defScope st)) (len : ∀ a c d vs H Q E, sp a c d vs H Q E → vs.length = ps.length)
    (hbody : ∀ (f : Addr) (cdv : Value) (A : Around) (outer : List Env) (s : Shared) (H : Hp) (vs : List V) (Q : VK) (E : XK) (e : Addr × Obj) (cls : Value) (d : Option Addr),
      L2H.Hot1 A e → Zc cls d e.2 → L2H.RoomH k (A.deeper (envOfC x (defScope st) s.heap.objs.size f cdv)) → sp e.1 cls d vs H Q E →
      ∃ t, PSs (L2H.cxH (L2N.CX P w) P w K mg base N x (defScope st) f cdv A outer s H E e) (defBody st) t ∧
        t ⟨fun _ H' => Q .non H', Q, fun _ _ => False, fun _ _ => False⟩ (L2.start N vs) H) :
    OwnP P w K mg base x (k + 1) ps sp := by
  obtain ⟨f, fd, hm, F⟩ := D.ex
  exact ⟨f, fd, hm, F.kp, F.binds hb, okP F S len (hbody f)⟩
end
section
variable {X : Cx} {j k : Nat} {ps : List Str} {sp : Sp} {E : L2.St → XK} {x : Str} {p pos : Pos} {e : Expr} {es : List Expr} {t : TA}
theorem pe_own (O : Own X.prog X.w X.K X.mg X.base x j ps sp) (hj : j ≤ k) (hr : Room k X.A) (hg : Gl X x)
    (hx : ∀ σ, PassesAt (L2N.CX X.prog X.w) X σ (E σ)) (ha : PA X (e :: es) t) (hdb : (x == ("__debug__" : Str)) = false := by decide)
    (he : starEach (e :: es) X.env = (false, eval e X.env) :: starEach es X.env := by rfl)
    (hpl : (backTo pos (starEach es X.env)).any (·.1) = false := by rfl) : PE X (.Call (.Name x p) (e :: es) [] pos) (tCallS sp E t) := by
  obtain ⟨f, fd, hm, hk, hb, F⟩ := O.ex
  exact pe_callS F (hr.mono hj) hg hm hk hb hx ha hdb he hpl
theorem pe_ownP {sp : SpP} {q : Addr × Obj} {cls : Value} {d : Option Addr} (O : OwnP X.prog X.w X.K X.mg X.base x j ps sp) (hj : j ≤ k) (hr : L2H.RoomH k X.A)
    (hot : L2H.Hot1 X.A q) (hp : q ∈ X.pn) (hz : Zc cls d q.2) (hg : Gl X x)
    (hx : ∀ σ, PassesAt (L2N.CX X.prog X.w) X σ (E σ)) (ha : PA X (e :: es) t) (hdb : (x == ("__debug__" : Str)) = false := by decide)
    (he : starEach (e :: es) X.env = (false, eval e X.env) :: starEach es X.env := by rfl)
    (hpl : (backTo pos (starEach es X.env)).any (·.1) = false := by rfl) : PE X (.Call (.Name x p) (e :: es) [] pos) (tCallS (sp q.1 cls d) E t) := by
  obtain ⟨f, fd, hm, hk, hb, F⟩ := O.ex
  exact pe_callP F (hr.mono hj) hot hp hz hg hm hk hb hx ha hdb he hpl
/-- a def without arguments -/
theorem pe_own0 (O : Own X.prog X.w X.K X.mg X.base x j ps sp) (hj : j ≤ k) (hr : Room k X.A) (hg : Gl X x)
    (hx : Passes (L2N.CX X.prog X.w) X E0) (hdb : (x == ("__debug__" : Str)) = false := by decide) : PE X (.Call (.Name x p) [] [] pos) (tCall sp [] E0 tNil) := by
  obtain ⟨f, fd, hm, hk, hb, F⟩ := O.ex
  exact pe_call0 F (hr.mono hj) hg hm hk hb .nil hx hdb
end
/-! ## 5. operators and looks that take what comes -/
def uAdd (K : PySem.W.Frag) : R2 := fun x y H Q =>
  (rI0 (fun i j => .int (i + j)) x y H Q ∨ ∃ i j, x = .str i ∧ y = .str j ∧ i.length + j.length ≤ sizeLine ∧ Q (.str (i ++ j)) H) ∨
  (rCat x y H Q ∨ rCatA K x y H Q)
def uMul : R2 := fun x y H Q => rI CMul (fun i j => .int (i * j)) x y H Q ∨ rRep x y H Q
def uEq (K : PySem.W.Frag) : R2 := fun x y H Q => (rEq x y H Q ∨ rEqD K x y H Q) ∨ (rEqDA x y H Q ∨ rEqT false x y H Q)
def uNe (K : PySem.W.Frag) : R2 := fun x y H Q => (rNe x y H Q ∨ rNeD K x y H Q) ∨ (rNeDA x y H Q ∨ rEqT true x y H Q)
def rIxD : R2 := fun x y H Q => ∃ a v, x = .ref a ∧ DGet H a y (some v) ∧ Q v H
def uIx (K : PySem.W.Frag) : R2 := fun x y H Q => rIx K x y H Q ∨ rIxD x y H Q
def rSetD : V → V → V → Hp → (Hp → Prop) → Prop := fun o i v H Q => ∃ a H', o = .ref a ∧ DPut H a i v H' ∧ Q H'
def uSet : V → V → V → Hp → (Hp → Prop) → Prop := fun o i v H Q => rSetL o i v H Q ∨ rSetD o i v H Q
def uSl (K : PySem.W.Frag) : V → Option Int → Option Int → Hp → VK → Prop := fun x lo hi H Q => rSlL K x lo hi H Q ∨ rSlA K x lo hi H Q
def uLen (K : PySem.W.Frag) : List V → Hp → VK → Prop := fun xs H Q =>
  ((∃ p ys, xs = [.ref p] ∧ (SqL K H p ys ∨ SqT K H p ys) ∧ Q (.int ys.length) H) ∨ ∃ z, xs = [.str z] ∧ z.length ≤ sizeLine ∧ Q (.int z.length) H) ∨
    ∃ a kvs, xs = [V.ref a] ∧ H a = some (.dK kvs) ∧ Q (.int kvs.length) H
def ItV (K : PySem.W.Frag) (x : V) (H1 : Hp) (R : It → Hp → Prop) : Prop :=
  (∃ a, x = .ref a ∧ (∃ xs, SqL K H1 a xs) ∧ R (Itl K a) H1) ∨ (∃ a, x = .ref a ∧ (∃ xs, SqT K H1 a xs) ∧ R (Itt K a) H1) ∨ ∃ z, x = .str z ∧ R (Its z) H1
def uIt (K : PySem.W.Frag) (tl : TE) : TI := fun σ H R => tl σ H fun x H1 => ItV K x H1 R
section
variable {X : Cx} {K : PySem.W.Frag} {a b : Expr} {ta tb : TE} {pos : Pos}
theorem op_uadd (hK : X.K = K := by rfl) : OpR X (binaryOp .Add) (uAdd K) := by
  subst hK
  exact OpR.or (OpR.or op_add op_add_str) (OpR.or op_cat op_catA)
theorem op_umul : OpR X (binaryOp .Mult) uMul := OpR.or op_mul op_rep
theorem op_ueq {k : Nat} (hr : L2H.RoomH k X.A) (hK : X.K = K := by rfl) : OpR X (compareOp .Eq) (uEq K) := by
  subst hK
  exact OpR.or (OpR.or op_eq (op_eqD (by have := hr.un; omega))) (OpR.or (op_eq_dictA (by have := hr.un; omega)) (op_eqT (by have := hr.un; omega)))
theorem op_une {k : Nat} (hr : L2H.RoomH k X.A) (hK : X.K = K := by rfl) : OpR X (compareOp .NotEq) (uNe K) := by
  subst hK
  exact OpR.or (OpR.or op_ne (op_neD (by have := hr.un; omega))) (OpR.or (op_ne_dictA (by have := hr.un; omega)) (op_neT (by have := hr.un; omega)))
theorem ix_dict (hu : X.A.units + 1 < cLine) : IxR X rIxD := by
  intro value slice pins s σ H x y v u Q I rx ry h hs
  obtain ⟨a, z, rfl, g, q⟩ := h
  obtain rfl : v = Value.ref a := rx
  have hT := dict_typeIs I g
  unfold subscriptTail
  refine wpAny_bind ?_
  rw [getitemInPython_of_ne hT.not_modules]
  refine wpAny_bind (wpAny_specialOf hT PySem.F.slot_dict_getitem.lookup ?_)
  have fin : wpAny (model X.prog X.w) X.A (subscripted slice false (.ref a) u)
      (fun r s₃ => wpAny (model X.prog X.w) X.A (letTemporaryGo value (.ref a) r >>= fun _ => pure r) (EP X pins σ Q) X.xe s₃) X.xe s := by
    rw [hs]
    refine wpAny_operating (d_getItem hu I g ry fun w' s3 I3 rw' => ?_)
    exact wpAny_bind (wpAny_letTemporaryGo (wpAny_pure ⟨z, H, I3, rw', q⟩))
  first
    | exact wpAny_pure (wpAny_bind fin)
    | exact wpAny_bind (wpAny_pure (wpAny_bind fin))
    | exact wpAny_bind fin
theorem units1 {k : Nat} {A : Around} (hr : L2H.RoomH k A) : A.units + 1 < cLine := by have := hr.un; omega
theorem ix_u {k : Nat} (hr : L2H.RoomH k X.A) (hK : X.K = K := by rfl) : IxR X (uIx K) := by
  subst hK
  exact IxR.or ix_seq (ix_dict (units1 hr))
theorem set_dict (hu : X.A.units + 1 < cLine) : PSet X rSetD := by
  intro pins s σ H o i v ov iv u Q I ro ri rv h
  obtain ⟨a, H', rfl, g, q⟩ := h
  obtain rfl : ov = Value.ref a := ro
  exact d_setItem hu I g ri rv fun s' I' => ⟨H', I', q⟩
theorem set_u {k : Nat} (hr : L2H.RoomH k X.A) : PSet X uSet := by
  intro pins s σ H o i v ov iv u Q I ro ri rv h
  rcases h with h | h
  · exact set_list pins s σ H o i v ov iv u Q I ro ri rv h
  · exact set_dict (units1 hr) pins s σ H o i v ov iv u Q I ro ri rv h
theorem sl_u (hK : X.K = K := by rfl) : SlR X (uSl K) := by
  subst hK
  exact SlR.or sl_list sl_tupA
theorem call_ulen (hK : X.K = K := by rfl) : CallR X (.builtin "len") (uLen K) := by
  subst hK
  exact CallR.or (CallR.or call_len_seq call_len_str) call_lenD
theorem pi_u {tg l : Expr} {tl : TE} (hl : PE X l tl) (hK : X.K = K := by rfl) : PI X tg l (uIt K tl) := by
  subst hK
  constructor
  intro pins s σ H R I h
  refine thn (hl.run pins s σ H _ I h) fun v s1 hh => ?_
  obtain ⟨x, H1, I1, r1, q1⟩ := hh
  rcases q1 with ⟨a, rfl, ⟨xs, hq⟩, q⟩ | ⟨a, rfl, ⟨xs, hq⟩, q⟩ | ⟨z, rfl, q⟩
  · cases r1
    obtain ⟨its, rv, p, hz⟩ := I1.list hq
    exact wpAny_pyIter_list p.isList (pi_one (tk := s1.toks) I1 _ (turn_list a _) ⟨_, Heap.get?_push_size _ rfl, rfl, rfl⟩ q)
  · cases r1
    obtain ⟨its, rv, p, hz⟩ := I1.tuple hq
    exact wpAny_pyIter_tuple (show s1.heap.IsTuple a its.toArray from p) (pi_one (tk := s1.toks) I1 _ (turn_tuple a _) ⟨_, Heap.get?_push_size _ rfl, rfl, rfl⟩ q)
  · obtain ⟨t, rfl⟩ := r1
    cases ha : z.cps.all (· < 128)
    · exact wpAny_pyIter_wide ha (pi_one (tk := s1.toks) I1 _ (turn_str _ z t "str_iterator" (.inr rfl)) ⟨_, Heap.get?_push_size _ rfl, rfl, rfl⟩ q)
    · exact wpAny_pyIter_ascii ha (pi_one (tk := s1.toks) I1 _ (turn_str _ z t "str_ascii_iterator" (.inl rfl)) ⟨_, Heap.get?_push_size _ rfl, rfl, rfl⟩ q)
def tTru (K : PySem.W.Frag) (ta : TE) : TT := fun σ H Q => ta σ H fun x H' => ∃ k, TruV K x H' k ∧ Q k H'
theorem pt_u (ha : PE X a ta) (he : ∀ whole, isTrue a X.env whole = (do let v ← whole; standAt a.pos; holding [v] (truthy v)) := by intro _; rfl) (hK : X.K = K := by rfl) :
    PT X a (tTru K ta) := by
  subst hK
  exact pt_truth ha he
end
end RT

namespace RT
open PySem PySem.Spec PyProof.Rows L2
/-! ## 6. own errors; constants; isinstance -/
structure ExcAt (K : PySem.W.Frag) (mg : Str → Option Value) (x : Str) : Type where
  C : Addr
  g : mg x = some (.ref C)
  ex : PySem.W.excIn K C [.type "ValueError", .type "Exception", .type "BaseException", .type "object"] "ValueError.__new__" = true
  kp : PySem.W.keepIn K (.ref C) = true
  sub : PySem.W.subIn K (.ref C) (.type "BaseException") = some true
  ty : PySem.W.typeIn K (.ref C) = some (.type "type")
  cc : ExcC K C
theorem ExcAt.raises {X : Cx} {K : PySem.W.Frag} {x : Str} {mg : Str → Option Value} (h : ExcAt K mg x) (hK : X.K = K := by rfl) : Raises X (.ref h.C) := by
  subst hK
  exact raises_own h.sub h.ty
def tRaise (W : L2.WX) (cls : Value) : TS := fun _ σ H => W cls none σ H
theorem ps_raiseU {X : Cx} {K : PySem.W.Frag} {x m : Str} {mg : Str → Option Value} {W : L2.WX} {j : Nat} {p p2 pos pos2 : Pos} (h : ExcAt K mg x) (tk : L2N.Takes X W) (hc : X.calm = true := by rfl) (hK : X.K = K := by rfl) (hm : X.mg = mg := by rfl) (hg : Gl X x := by rfl)
    (hdb : (x == ("__debug__" : Str)) = false := by decide) : PS X (.Raise (some (.Call (.Name x p) [.Constant (.str m) j p2] [] pos)) none pos2) (tRaise W (.ref h.C)) := by
  subst hK hm
  exact L2N.ps_raise hc tk (L2N.pmk_own PySem.F.excBase_ValueError h.ex h.g h.kp h.raises hg hdb)
/-! a try whose clause names the error: the body and the suite are derived where they are asked -/
def tTryB (X : Cx) (body : List Stmt) (W : L2.WX) : TS := fun D σ H =>
  ∀ (pn : List (Addr × Obj)) (xe : Value → Shared → Prop), L2N.Takes (X.tr pn xe) W → PassesOwn (model X.prog X.w) X.A X.env xe →
    ∃ t, PSs (X.tr pn xe) body t ∧ t D σ H
def tTryS (X : Cx) (suite : List Stmt) (a : Addr) (cls : Value) (d : Option Addr) : TS := fun D σ H =>
  ∀ (oe : Obj) (pn : List (Addr × Obj)), L2N.Zn cls d oe → (∃ vs, oe.data = .fields vs) →
    ∃ t, PSs (X.suite a ((a, oe) :: pn)) suite t ∧ t D σ H
def tTry (X : Cx) (K : PySem.W.Frag) (c : Value) (i : Nat) (Wout : L2.WX) (body suite : List Stmt) : TS := fun D σ H =>
  tTryB X body (wAs K c i (tTryS X suite) Wout D) D σ H
theorem ps_tryU {X : Cx} {K : PySem.W.Frag} {x n : Str} {c : Value} {i : Nat} {body suite : List Stmt} {b₀ : Stmt} {np pos pos' : Pos} {Wout : L2.WX}
    (hN : X.N.Nodup) (hi : X.N[i]? = some n) (hc : Names X x c) (tk : L2N.Takes X Wout) (hs : X.stack = X.env :: X.outer := by rfl)
    (hf : X.env.frame = some X.env.locals := by rfl) (hln : X.env.kindOf n = some .local := by rfl) (hK : X.K = K := by rfl) :
    PS X (.Try body [.ExceptHandler (some (.Name x np)) (some n) (b₀ :: suite) pos'] [] [] pos) (tTry X K c i Wout body (b₀ :: suite)) := by
  subst hK
  refine L2N.ps_try_as (tb := tTryB X body) (ts := tTryS X (b₀ :: suite)) hs hf hN hi hln hc tk (fun W pn xe tk' po => ?_) (fun a oe cls d pn hz hv => ?_)
  · constructor
    intro pins s σ H D I h
    obtain ⟨t, ht, q⟩ := h pn xe tk' po
    exact ht.run pins s σ H D I q
  · constructor
    intro pins s σ H D I h
    obtain ⟨t, ht, q⟩ := h oe pn hz hv
    exact ht.run pins s σ H D I q
structure ConAt (mg : Str → Option Value) (x : Str) (v : V) : Prop where
  ex : ∃ u, mg x = some u ∧ RelV v u
theorem pe_con_ {X : Cx} {x : Str} {v : V} {pos : Pos} (h : ConAt X.mg x v) (hg : Gl X x) (hd : (x == ("__debug__" : Str)) = false := by decide) : PE X (.Name x pos) (tC v) := by
  obtain ⟨u, h1, h2⟩ := h.ex
  exact pe_glob hg h1 h2 hd
theorem hot_of {A : Around} {a : Addr} {oe : Obj} {cls : Value} {d : Option Addr} (hz : L2N.Zn cls d oe) (hf : ∃ vs, oe.data = .fields vs) : L2H.Hot1 (A.mark (some (.ref a))) (a, oe) := by
  obtain ⟨vs, hv⟩ := hf
  exact ⟨rfl, vs, hv, hz.2.2 vs hv⟩
theorem markH {k : Nat} {A : Around} {o : Option Value} (h : L2H.RoomH k A) : L2H.RoomH k (A.mark o) := ⟨h.dp, h.un⟩
theorem hot_fields {A : Around} {e : Addr × Obj} (h : L2H.Hot1 A e) : ∃ vs, e.2.data = .fields vs := by
  obtain ⟨_, vs, hv, _⟩ := h
  exact ⟨vs, hv⟩
theorem passN0 {X : Cx} : Passes (L2N.CX X.prog X.w) X E0 := fun pins σ H s e s' I h => passN σ pins H s e s' I h
/-- isinstance by a built-in type's name -/
def isF (x : V) (S : String) : Bool := match x with
  | .non => S == "NoneType"
  | .bl _ => S == "bool" || S == "int"
  | .int _ => S == "int"
  | .str _ => S == "str"
  | _ => false
theorem kits : kitB "NoneType" "int" = some false ∧ kitB "NoneType" "bool" = some false ∧ kitB "NoneType" "str" = some false ∧ kitB "NoneType" "tuple" = some false ∧ kitB "NoneType" "list" = some false ∧ kitB "NoneType" "dict" = some false := by decide +kernel
theorem kitb : kitB "bool" "int" = some true ∧ kitB "bool" "bool" = some true ∧ kitB "bool" "str" = some false ∧ kitB "bool" "tuple" = some false ∧ kitB "bool" "list" = some false ∧ kitB "bool" "dict" = some false := by decide +kernel
theorem kiti : kitB "int" "int" = some true ∧ kitB "int" "bool" = some false ∧ kitB "int" "str" = some false ∧ kitB "int" "tuple" = some false ∧ kitB "int" "list" = some false ∧ kitB "int" "dict" = some false := by decide +kernel
theorem kitt : kitB "str" "int" = some false ∧ kitB "str" "bool" = some false ∧ kitB "str" "str" = some true ∧ kitB "str" "tuple" = some false ∧ kitB "str" "list" = some false ∧ kitB "str" "dict" = some false := by decide +kernel
theorem kitu : kitB "tuple" "int" = some false ∧ kitB "tuple" "bool" = some false ∧ kitB "tuple" "str" = some false ∧ kitB "tuple" "tuple" = some true ∧ kitB "tuple" "list" = some false ∧ kitB "tuple" "dict" = some false := by decide +kernel
theorem kitl : kitB "list" "int" = some false ∧ kitB "list" "bool" = some false ∧ kitB "list" "str" = some false ∧ kitB "list" "tuple" = some false ∧ kitB "list" "list" = some true ∧ kitB "list" "dict" = some false := by decide +kernel
theorem kitd : kitB "dict" "int" = some false ∧ kitB "dict" "bool" = some false ∧ kitB "dict" "str" = some false ∧ kitB "dict" "tuple" = some false ∧ kitB "dict" "list" = some false ∧ kitB "dict" "dict" = some true := by decide +kernel
def sixT (S : String) : Prop := S = "int" ∨ S = "bool" ∨ S = "str" ∨ S = "tuple" ∨ S = "list" ∨ S = "dict"
def uIsi (K : PySem.W.Frag) : List V → Hp → VK → Prop := rIsi K
theorem call_uisi {X : Cx} {K : PySem.W.Frag} (hK : X.K = K := by rfl) : CallR X (.builtin "isinstance") (uIsi K) := by
  subst hK
  exact call_isi
theorem v_isi_flat {K : PySem.W.Frag} {x : V} {S : String} {H : Hp} {Q : VK} (f : flatV x = true) (hS : sixT S) (q : Q (.bl (isF x S)) H) : uIsi K [x, .ty S] H Q := by
  have key : ∃ t, TyX K H x (.type t) ∧ kitB t S = some (isF x S) := by
    obtain ⟨a1, a2, a3, a4, a5, a6⟩ := kits
    obtain ⟨b1, b2, b3, b4, b5, b6⟩ := kitb
    obtain ⟨c1, c2, c3, c4, c5, c6⟩ := kiti
    obtain ⟨d1, d2, d3, d4, d5, d6⟩ := kitt
    cases x with
    | non => exact ⟨_, .base .non, by rcases hS with rfl | rfl | rfl | rfl | rfl | rfl <;> assumption⟩
    | bl b => exact ⟨_, .base (.bl b), by rcases hS with rfl | rfl | rfl | rfl | rfl | rfl <;> assumption⟩
    | int i => exact ⟨_, .base (.int i), by rcases hS with rfl | rfl | rfl | rfl | rfl | rfl <;> assumption⟩
    | str z => exact ⟨_, .base (.str z), by rcases hS with rfl | rfl | rfl | rfl | rfl | rfl <;> assumption⟩
    | byt b => exact absurd f (by simp [flatV])
    | flt b => exact absurd f (by simp [flatV])
    | ref a => exact absurd f (by simp [flatV])
    | ty n => exact absurd f (by simp [flatV])
  obtain ⟨t, h1, h2⟩ := key
  exact ⟨x, .ty S, _, _, _, rfl, .ty S, h1, kit_ty h2, q⟩
theorem v_isi_tup {K : PySem.W.Frag} {a : Addr} {xs : List V} {S : String} {H : Hp} {Q : VK} (h : H a = some (.tup xs)) (hS : sixT S) (q : Q (.bl (S == "tuple")) H) : uIsi K [.ref a, .ty S] H Q := by
  obtain ⟨d1, d2, d3, d4, d5, d6⟩ := kitu
  refine ⟨_, .ty S, _, _, _, rfl, .ty S, .base (.tup h), kit_ty (?_ : _ = some (S == "tuple")), q⟩
  rcases hS with rfl | rfl | rfl | rfl | rfl | rfl <;> assumption
theorem v_isi_lst {K : PySem.W.Frag} {a : Addr} {xs : List V} {S : String} {H : Hp} {Q : VK} (h : H a = some (.lst xs)) (hS : sixT S) (q : Q (.bl (S == "list")) H) : uIsi K [.ref a, .ty S] H Q := by
  obtain ⟨d1, d2, d3, d4, d5, d6⟩ := kitl
  refine ⟨_, .ty S, _, _, _, rfl, .ty S, .base (.lst h), kit_ty (?_ : _ = some (S == "list")), q⟩
  rcases hS with rfl | rfl | rfl | rfl | rfl | rfl <;> assumption
theorem v_isi_dic {K : PySem.W.Frag} {a : Addr} {kvs : List (Key × V)} {S : String} {H : Hp} {Q : VK} (h : H a = some (.dK kvs)) (hS : sixT S) (q : Q (.bl (S == "dict")) H) : uIsi K [.ref a, .ty S] H Q := by
  obtain ⟨d1, d2, d3, d4, d5, d6⟩ := kitd
  refine ⟨_, .ty S, _, _, _, rfl, .ty S, .base (.dK h), kit_ty (?_ : _ = some (S == "dict")), q⟩
  rcases hS with rfl | rfl | rfl | rfl | rfl | rfl <;> assumption
theorem v_isi_dicT {K : PySem.W.Frag} {a : Addr} {kvs : List (List Key × V)} {S : String} {H : Hp} {Q : VK} (h : H a = some (.dT kvs)) (hS : sixT S) (q : Q (.bl (S == "dict")) H) : uIsi K [.ref a, .ty S] H Q := by
  obtain ⟨d1, d2, d3, d4, d5, d6⟩ := kitd
  refine ⟨_, .ty S, _, _, _, rfl, .ty S, .base (.dT h), kit_ty (?_ : _ = some (S == "dict")), q⟩
  rcases hS with rfl | rfl | rfl | rfl | rfl | rfl <;> assumption
theorem v_isE {K : PySem.W.Frag} {D a : Addr} {c : V} {cv : Value} {b : Bool} {H : Hp} {Q : VK} (C : ExcC K D) (hcv : ∀ u, RelV c u → u = cv)
    (hk : PySem.W.kitOne K (.ref D) cv = some b) (q : Q (.bl b) H) : uIsE K (.ref D) none a [.ref a, c] H Q := ⟨D, c, cv, b, rfl, rfl, C, rfl, hcv, hk, q⟩
/-! ## 7. more of what takes what comes -/
section
variable {X : Cx} {K : PySem.W.Frag}
def uMax (K : PySem.W.Frag) := rMax K
def uMin (K : PySem.W.Frag) := rMin K
def uSum (K : PySem.W.Frag) := rSum K
def uAll (K : PySem.W.Frag) := rAll K
def uAny (K : PySem.W.Frag) := rAny K
theorem cr_umax (hc : X.calm = true) (hK : X.K = K := by rfl) : CallR X (.builtin "max") (uMax K) := by subst hK; exact cr_max hc
theorem cr_umin (hc : X.calm = true) (hK : X.K = K := by rfl) : CallR X (.builtin "min") (uMin K) := by subst hK; exact cr_min hc
theorem cr_usum (hc : X.calm = true) (hK : X.K = K := by rfl) : CallR X (.builtin "sum") (uSum K) := by subst hK; exact cr_sum hc
theorem cr_uall (hc : X.calm = true) (hK : X.K = K := by rfl) : CallR X (.builtin "all") (uAll K) := by subst hK; exact cr_all hc
theorem cr_uany (hc : X.calm = true) (hK : X.K = K := by rfl) : CallR X (.builtin "any") (uAny K) := by subst hK; exact cr_any hc
def uMax2 : List V → Hp → VK → Prop := fun xs H Q => ∃ i j, xs = [.int i, .int j] ∧ Q (.int (if j > i then j else i)) H
def uMin2 : List V → Hp → VK → Prop := fun xs H Q => ∃ i j, xs = [.int i, .int j] ∧ Q (.int (if j < i then j else i)) H
theorem call_umax2 (hc : X.calm = true) : CallR X (.builtin "max") uMax2 := call_max2 hc
theorem call_umin2 (hc : X.calm = true) : CallR X (.builtin "min") uMin2 := call_min2 hc
def uInt1 : List V → Hp → VK → Prop := fun xs H Q => (∃ i, xs = [.int i] ∧ Q (.int i) H) ∨ ∃ k, xs = [.bl k] ∧ Q (.int (if k then 1 else 0)) H
theorem call_uint1 : CallR X (.type "int") uInt1 := call_int1
def uStrI : List V → Hp → VK → Prop := fun xs H Q => ∃ i, xs = [.int i] ∧ i.natAbs.log2 < 1920 ∧ Q (.str (toString i)) H
theorem call_ustr : CallR X (.type "str") uStrI := call_str_int
def uSorted (K : PySem.W.Frag) : List V → Hp → VK → Prop := fun vs H Q => (rSortedI K vs H Q ∨ rSortedS K vs H Q) ∨ rSortC K vs H Q
theorem cr_usorted (hK : X.K = K := by rfl) : CallR X (.builtin "sorted") (uSorted K) := by subst hK; exact CallR.or (CallR.or cr_sortedI cr_sortedS) cr_sortedC
def uLt : R2 := fun x y H Q => rI0 (fun i j => .bl (decide (i < j))) x y H Q ∨ ∃ i j, x = .str i ∧ y = .str j ∧ Q (.bl (decide (i.cps.toList < j.cps.toList))) H
theorem op_ult : OpR X (compareOp .Lt) uLt := OpR.or op_lt op_lt_str
def rInDk (neg : Bool) : R2 := fun y x H Q => ∃ a o, x = .ref a ∧ DGet H a y o ∧ Q (.bl (if neg then !o.isSome else o.isSome)) H
theorem op_inDk (hu : X.A.units + 1 < cLine) : OpR X (compareOp .In) (rInDk false) := by
  intro pins s σ H y x u v Q I ry rx h
  obtain ⟨a, o, rfl, g, q⟩ := h
  obtain rfl : v = Value.ref a := rx
  exact d_in hu I g ry fun s' I' => ⟨.bl o.isSome, H, I', rfl, q⟩
theorem op_ninDk (hu : X.A.units + 1 < cLine) : OpR X (compareOp .NotIn) (rInDk true) := by
  intro pins s σ H y x u v Q I ry rx h
  obtain ⟨a, o, rfl, g, q⟩ := h
  obtain rfl : v = Value.ref a := rx
  exact d_notIn hu I g ry fun s' I' => ⟨.bl (!o.isSome), H, I', rfl, q⟩
def rInDp (K : PySem.W.Frag) (neg : Bool) : R2 := fun x y H Q => ∃ d ds, Dp K H x d ∧ Dp K H y (.list ds) ∧ SeqAt.shaped d = true ∧ SeqAt.shaped (.list ds) = true ∧ Q (.bl (if neg then !ds.any fun z => PyData.eqv z d else ds.any fun z => PyData.eqv z d)) H
def uIn (K : PySem.W.Frag) (neg : Bool) : R2 := fun x y H Q => ((rIn K neg x y H Q ∨ rInDp K neg x y H Q) ∨ rInDk neg x y H Q) ∨
  ∃ i j, x = .str i ∧ y = .str j ∧ Q (.bl (if neg then !(!(Builtin.Str.occurrences j i 0 j.length 1).isEmpty) else !(Builtin.Str.occurrences j i 0 j.length 1).isEmpty)) H
theorem op_uin {k : Nat} (hr : L2H.RoomH k X.A) (hK : X.K = K := by rfl) : OpR X (compareOp .In) (uIn K false) := by
  subst hK
  exact OpR.or (OpR.or (OpR.or op_in_seq (L2.op_inD (by have := hr.un; omega))) (op_inDk (units1 hr))) op_in_str
theorem op_unin {k : Nat} (hr : L2H.RoomH k X.A) (hK : X.K = K := by rfl) : OpR X (compareOp .NotIn) (uIn K true) := by
  subst hK
  exact OpR.or (OpR.or (OpR.or op_notIn_seq (L2.op_notInD (by have := hr.un; omega))) (op_ninDk (units1 hr))) op_notin_str
theorem ip_uadd : PIp X .Add (ipI fun i j => i + j) := ip_add
theorem ip_usub : PIp X .Sub (ipI fun i j => i - j) := ip_sub
def uList (K : PySem.W.Frag) : List V → Hp → VK → Prop := fun xs H Q => (∃ p ys, xs = [.ref p] ∧ (SqL K H p ys ∨ SqT K H p ys) ∧ ∀ l, H l = none → Q (.ref l) (upd H l (.lst ys))) ∨ rListD xs H Q
theorem call_ulist (hc : X.calm = true) (hK : X.K = K := by rfl) : CallR X (.type "list") (uList K) := by subst hK; exact CallR.or call_list_of (call_list_dK hc)
def uTuple (K : PySem.W.Frag) : List V → Hp → VK → Prop := fun xs H Q => ∃ p ys, xs = [.ref p] ∧ ((SqL K H p ys ∧ ∀ l, H l = none → Q (.ref l) (upd H l (.tup ys))) ∨ (SqT K H p ys ∧ Q (.ref p) H))
theorem call_utuple (hK : X.K = K := by rfl) : CallR X (.type "tuple") (uTuple K) := by subst hK; exact call_tuple_of
def tNotU (t : TT) : TE := fun σ H Q => t σ H fun c H1 => Q (.bl (!c)) H1
end
/-! ## 8. heaps: what stands -/
structure Chg (S : List Addr) (H H' : Hp) : Prop where
  keep : ∀ {b o}, H b = some o → b ∉ S → H' b = some o
  tup : ∀ {b xs}, H b = some (.tup xs) → H' b = some (.tup xs)
  dom : ∀ {b}, H' b = none → H b = none
theorem Chg.refl {S : List Addr} {H : Hp} : Chg S H H := ⟨fun h _ => h, fun h => h, fun h => h⟩
theorem Chg.at {H H' : Hp} (c : Chg [] H H') {b : Addr} {o : HO} (h : H b = some o) : H' b = some o := c.keep h (by simp)
theorem Chg.same {H H' : Hp} (c : Chg [] H H') : Same H H' := fun _ _ h => c.at h
theorem Chg.mono {S S' : List Addr} {H H' : Hp} (c : Chg S H H') (h : ∀ b ∈ S, b ∈ S') : Chg S' H H' :=
  ⟨fun e n => c.keep e fun m => n (h _ m), c.tup, c.dom⟩
theorem Chg.of0 {S : List Addr} {H H' : Hp} (c : Chg [] H H') : Chg S H H' := c.mono (by simp)
theorem Chg.trans {S : List Addr} {H H1 H2 : Hp} (a : Chg S H H1) (b : Chg S H1 H2) : Chg S H H2 :=
  ⟨fun e n => b.keep (a.keep e n) n, fun e => b.tup (a.tup e), fun e => a.dom (b.dom e)⟩
/-- what is changed besides was new -/
theorem Chg.trans' {S S' : List Addr} {H H1 H2 : Hp} (a : Chg S H H1) (b : Chg S' H1 H2) (hn : ∀ l ∈ S', l ∈ S ∨ H l = none) : Chg S H H2 :=
  ⟨fun {c o} e n => b.keep (a.keep e n) fun m => (hn c m).elim n fun z => (by rw [z] at e; cases e), fun e => b.tup (a.tup e), fun e => a.dom (b.dom e)⟩
theorem Chg.new {H : Hp} {p : Addr} {o : HO} (h : H p = none) : Chg [] H (upd H p o) := by
  refine ⟨fun {b u} e _ => ?_, fun {b u} e => ?_, fun {b} e => ?_⟩
  · rw [upd_ne (ne_of_none e h)]; exact e
  · rw [upd_ne (ne_of_none e h)]; exact e
  · by_cases hb : b = p
    · subst hb; exact h
    · rw [upd_ne hb] at e; exact e
theorem Chg.set {H : Hp} {p : Addr} {o u : HO} (h : H p = some u) (hu : ∀ xs, u ≠ .tup xs) : Chg [p] H (upd H p o) := by
  refine ⟨fun {b v} e n => ?_, fun {b xs} e => ?_, fun {b} e => ?_⟩
  · rw [upd_ne (by simpa using n)]; exact e
  · have : b ≠ p := fun z => by subst z; rw [h] at e; exact hu xs (Option.some.inj e)
    rw [upd_ne this]; exact e
  · by_cases hb : b = p
    · subst hb; rw [upd_same] at e; cases e
    · rw [upd_ne hb] at e; exact e
theorem Chg.ne {S : List Addr} {H H' : Hp} (c : Chg S H H') {p q : Addr} {o : HO} (hp : H' p = none) (hq : H q = some o) : q ≠ p := by
  intro e; subst e; rw [c.dom hp] at hq; cases hq
theorem Chg.seqL {K : PySem.W.Frag} {H H' : Hp} (c : Chg [] H H') {a : Addr} {xs : List V} (h : SqL K H a xs) : SqL K H' a xs := c.same.seq h
theorem Chg.seqLS {K : PySem.W.Frag} {S : List Addr} {H H' : Hp} (c : Chg S H H') {a : Addr} {xs : List V} (h : SqL K H a xs) (n : ∀ o, H a = some o → a ∉ S) : SqL K H' a xs := by
  rcases h with (h | ⟨o, h⟩) | h
  · exact .inl (.inl (c.keep h (n _ h)))
  · exact .inl (.inr ⟨o, c.keep h (n _ h)⟩)
  · exact .inr h
theorem Chg.seqT {K : PySem.W.Frag} {H H' : Hp} (c : Chg [] H H') {a : Addr} {xs : List V} (h : SqT K H a xs) : SqT K H' a xs := by
  rcases h with (h | ⟨o, h⟩) | h
  · exact .inl (.inl (c.at h))
  · exact .inl (.inr ⟨o, c.at h⟩)
  · exact .inr h
end RT

namespace RT
open PySem PySem.Spec PyProof.Rows L2
/-! ## 9. the readings, from the left, one step a lemma -/
section
variable {t u : TS} {n : L2.St → Hp → Prop} {r : VK} {b c : L2.St → Hp → Prop} {σ : L2.St} {H : Hp} {te tf : TE} {g : TG} {Q : VK} {i : Nat} {v x y : V}
theorem v_seq (h : t ⟨u ⟨n, r, b, c⟩, r, b, c⟩ σ H) : tSeq t u ⟨n, r, b, c⟩ σ H := h
theorem v_next (h : n σ H) : tNext ⟨n, r, b, c⟩ σ H := h
theorem v_break (h : b σ H) : tBreak ⟨n, r, b, c⟩ σ H := h
theorem v_cont (h : c σ H) : tCont ⟨n, r, b, c⟩ σ H := h
theorem v_asg (h : te σ H fun x H1 => g x σ H1 n) : tAsg te g ⟨n, r, b, c⟩ σ H := h
theorem v_name {Q : L2.St → Hp → Prop} (h : Q (σ.set i (some v)) H) : gName i v σ H Q := h
theorem v_gtup {K : PySem.W.Frag} {m : Nat} {t : TGs} {a : Addr} {xs : List V} {Q : L2.St → Hp → Prop} (e : SqT K H a xs) (hl : xs.length = m) (h : t xs σ H Q) : gTup K m t (.ref a) σ H Q := ⟨a, xs, rfl, e, hl, h⟩
theorem v_gcons {t : TG} {u : TGs} {vs : List V} {Q : L2.St → Hp → Prop} (h : t v σ H fun σ' H' => u vs σ' H' Q) : gCons t u (v :: vs) σ H Q := ⟨v, vs, rfl, h⟩
theorem v_gnil {Q : L2.St → Hp → Prop} (h : Q σ H) : gNil [] σ H Q := ⟨rfl, h⟩
theorem v_drop (h : te σ H fun _ H1 => n σ H1) : tDrop te ⟨n, r, b, c⟩ σ H := h
theorem v_ret (h : te σ H r) : tRet te ⟨n, r, b, c⟩ σ H := h
theorem v_retN (h : r .non H) : tRetN ⟨n, r, b, c⟩ σ H := h
theorem v_ifs {tc : TT} (h : tc σ H fun k H1 => if k = true then t ⟨n, r, b, c⟩ σ H1 else u ⟨n, r, b, c⟩ σ H1) : tIfS tc t u ⟨n, r, b, c⟩ σ H := h
/-- where two ways meet again: what holds there -/
theorem v_join {U : L2.St → Hp → Prop} (R : L2.St → Hp → Prop) (k : ∀ σ H, R σ H → U σ H) (h : ∀ U : L2.St → Hp → Prop, (∀ σ H, R σ H → U σ H) → t ⟨U, r, b, c⟩ σ H) : t ⟨U, r, b, c⟩ σ H := h U k
/-- an if whose test does something: what holds behind it -/
theorem v_ifJ {tc : TT} {D : Ends} (R : Bool → Hp → Prop) (k1 : ∀ H', R true H' → t D σ H') (k2 : ∀ H', R false H' → u D σ H') (h : ∀ Q : Bool → Hp → Prop, (∀ k H', R k H' → Q k H') → tc σ H Q) : tIfS tc t u D σ H := by
  refine h _ fun k H' hr => ?_
  cases k with
  | true => rw [if_pos rfl]; exact k1 H' hr
  | false => rw [if_neg Bool.false_ne_true]; exact k2 H' hr
theorem v_aug {ti : TIp} (h : σ[i]? = some (some x)) (q : te σ H fun y H1 => ti x y H1 fun z H2 => n (σ.set i (some z)) H2) : tAug i te ti ⟨n, r, b, c⟩ σ H := ⟨x, h, q⟩
theorem v_ipI {f : Int → Int → Int} {i j : Int} (q : Q (.int (f i j)) H) : ipI f (.int i) (.int j) H Q := ⟨_, _, rfl, rfl, q⟩
theorem v_var (h : σ[i]? = some (some v)) (q : Q v H) : tVar i σ H Q := ⟨v, h, q⟩
theorem v_c (q : Q v H) : tC v σ H Q := q
theorem v_op {rr : R2} (h : te σ H fun x H1 => tf σ H1 fun y H2 => rr x y H2 Q) : tOp rr te tf σ H Q := h
theorem v_un {rr : V → Hp → VK → Prop} (h : te σ H fun x H1 => rr x H1 Q) : tUn rr te σ H Q := h
def IsB (x : V) (P : Bool → Prop) : Prop := ∃ k, x = .bl k ∧ P k
theorem v_isb {P : Bool → Prop} {k : Bool} (h : P k) : IsB (.bl k) P := ⟨k, rfl, h⟩
theorem v_test {Q : Bool → Hp → Prop} (h : te σ H fun x H1 => IsB x fun k => Q k H1) : tTest te σ H Q := h
theorem v_tb {Q : Bool → Hp → Prop} (h : te σ H fun x H1 => IsB x fun k => Q k H1) : tB te σ H Q := h
def Tru (K : PySem.W.Frag) (x : V) (H : Hp) (P : Bool → Prop) : Prop := ∃ k, TruV K x H k ∧ P k
theorem v_tru {K : PySem.W.Frag} {Q : Bool → Hp → Prop} (h : te σ H fun x H1 => Tru K x H1 fun k => Q k H1) : tTru K te σ H Q := h
theorem v_tru_b {K : PySem.W.Frag} {P : Bool → Prop} {k : Bool} (h : P k) : Tru K (.bl k) H P := ⟨k, rfl, h⟩
theorem v_tru_i {K : PySem.W.Frag} {P : Bool → Prop} {i : Int} (h : P (i != 0)) : Tru K (.int i) H P := ⟨_, rfl, h⟩
theorem v_tru_n {K : PySem.W.Frag} {P : Bool → Prop} (h : P false) : Tru K .non H P := ⟨_, rfl, h⟩
theorem v_tru_l {K : PySem.W.Frag} {P : Bool → Prop} {a : Addr} {xs : List V} (hl : SqL K H a xs) (h : P (!xs.isEmpty)) : Tru K (.ref a) H P := ⟨_, .inl ⟨xs, hl, rfl⟩, h⟩
theorem v_tru_t {K : PySem.W.Frag} {P : Bool → Prop} {a : Addr} {xs : List V} (hl : SqT K H a xs) (h : P (!xs.isEmpty)) : Tru K (.ref a) H P := ⟨_, .inr (.inl ⟨xs, hl, rfl⟩), h⟩
theorem v_and {t u : TT} {Q : Bool → Hp → Prop} (h : t σ H fun k H1 => if k = true then u σ H1 Q else Q false H1) : tAnd t u σ H Q := h
theorem v_or {t u : TT} {Q : Bool → Hp → Prop} (h : t σ H fun k H1 => if k = true then Q true H1 else u σ H1 Q) : tOr t u σ H Q := h
theorem v_not {t : TT} {Q : Bool → Hp → Prop} (h : t σ H fun k H1 => Q (!k) H1) : tNot t σ H Q := h
theorem v_notU {t : TT} (h : t σ H fun k H1 => Q (.bl (!k)) H1) : tNotU t σ H Q := h
theorem v_andV (h : te σ H fun x H1 => IsB x fun k => if k = true then tf σ H1 Q else Q (.bl false) H1) : tAndV te tf σ H Q := h
theorem v_orV (h : te σ H fun x H1 => IsB x fun k => if k = true then Q (.bl true) H1 else tf σ H1 Q) : tOrV te tf σ H Q := h
theorem v_ifE {t : TT} (h : t σ H fun k H1 => if k = true then te σ H1 Q else tf σ H1 Q) : tIf t te tf σ H Q := h
theorem v_chain {rr rs : R2} {tg : TE} (h : te σ H fun x H1 => tf σ H1 fun y H2 => rr x y H2 fun z H3 => IsB z fun k => if k = true then tg σ H3 fun w' H4 => rs y w' H4 Q else Q (.bl false) H3) : tChain rr rs te tf tg σ H Q := h
theorem v_nil {Q : List V → Hp → Prop} (h : Q [] H) : tNil σ H Q := h
theorem v_cons {tr : TA} {Q : List V → Hp → Prop} (h : te σ H fun x H1 => tr σ H1 fun xs H2 => Q (x :: xs) H2) : tCons te tr σ H Q := h
theorem v_callS {sp : Sp} {E : L2.St → XK} {ta : TA} (h : ta σ H fun vs H1 => sp vs H1 Q (E σ)) : tCallS sp E ta σ H Q := h
theorem v_call {sp : Sp} {E : XK} {ta : TA} (h : ta σ H fun vs H1 => sp (vs ++ []) H1 Q E) : tCall sp [] E ta σ H Q := h
theorem v_cb {rr : List V → Hp → VK → Prop} {ta : TA} (h : ta σ H fun vs H1 => rr vs H1 Q) : tCB rr ta σ H Q := h
def BM (K : PySem.W.Frag) (T : String) (x : V) (H : Hp) (P : Prop) : Prop := tyV K T x H ∧ P
theorem v_bm {K : PySem.W.Frag} {T : String} {rr : V → List V → Hp → VK → Prop} {ta : TA} (h : te σ H fun x H1 => BM K T x H1 (ta σ H1 fun xs H2 => rr x xs H2 Q)) : tBM K T rr te ta σ H Q := h
theorem v_bm0 {K : PySem.W.Frag} {T : String} {rr : V → List V → Hp → VK → Prop} (h : te σ H fun x H1 => BM K T x H1 (rr x [] H1 Q)) : tBM0 K T rr te σ H Q := h
theorem v_bml {K : PySem.W.Frag} {p : Addr} {xs : List V} {P : Prop} (h : SqL K H p xs) (q : P) : BM K "list" (.ref p) H P := ⟨.inl ⟨rfl, xs, h⟩, q⟩
theorem v_bms {K : PySem.W.Frag} {z : Str} {P : Prop} (q : P) : BM K "str" (.str z) H P := ⟨rfl, q⟩
def NewL (xs : List V) (H : Hp) (Q : VK) : Prop := xs.length ≤ sizeLine ∧ ∀ p, H p = none → Q (.ref p) (upd H p (.lst xs))
def NewT (xs : List V) (H : Hp) (Q : VK) : Prop := xs.length ≤ sizeLine ∧ ∀ p, H p = none → Q (.ref p) (upd H p (.tup xs))
theorem v_lst {ta : TA} (h : ta σ H fun xs H1 => NewL xs H1 Q) : tLst ta σ H Q := h
theorem v_tup {ta : TA} (h : ta σ H fun xs H1 => NewT xs H1 Q) : tTup ta σ H Q := h
theorem v_newL {xs : List V} (hl : xs.length ≤ sizeLine) (h : ∀ p H', H p = none → Chg [] H H' → H' p = some (.lst xs) → Q (.ref p) H') : NewL xs H Q :=
  ⟨hl, fun p hp => h p _ hp (.new hp) upd_same⟩
theorem v_newT {xs : List V} (hl : xs.length ≤ sizeLine) (h : ∀ p H', H p = none → Chg [] H H' → H' p = some (.tup xs) → Q (.ref p) H') : NewT xs H Q :=
  ⟨hl, fun p hp => h p _ hp (.new hp) upd_same⟩
theorem v_iteT {A B : Prop} (h : A) : if true = true then A else B := by rw [if_pos rfl]; exact h
theorem v_iteF {A B : Prop} (h : B) : if false = true then A else B := by rw [if_neg Bool.false_ne_true]; exact h
theorem v_iteD {p A B : Prop} [Decidable p] (h1 : p → A) (h2 : ¬ p → B) : if decide p = true then A else B := by
  by_cases h : p
  · rw [decide_eq_true h]; exact v_iteT (h1 h)
  · rw [decide_eq_false h]; exact v_iteF (h2 h)
theorem v_iteN {p A B : Prop} [Decidable p] (h1 : ¬ p → A) (h2 : p → B) : if (!decide p) = true then A else B := by
  by_cases h : p
  · rw [decide_eq_true h]; exact v_iteF (h2 h)
  · rw [decide_eq_false h]; exact v_iteT (h1 h)
theorem v_iteNT {A B : Prop} (h : B) : if (!true) = true then A else B := v_iteF h
theorem v_iteNF {A B : Prop} (h : A) : if (!false) = true then A else B := v_iteT h
theorem v_iteB {k : Bool} {A B : Prop} (h1 : k = true → A) (h2 : k = false → B) : if k = true then A else B := by
  cases k
  · exact v_iteF (h2 rfl)
  · exact v_iteT (h1 rfl)
theorem v_iteNB {k : Bool} {A B : Prop} (h1 : k = false → A) (h2 : k = true → B) : if (!k) = true then A else B := by
  cases k
  · exact v_iteT (h1 rfl)
  · exact v_iteF (h2 rfl)
def IsI (x : V) (P : Int → Prop) : Prop := ∃ i, x = .int i ∧ P i
/-- by values -/
theorem v_rI0 {f : Int → Int → V} {i j : Int} (q : Q (f i j) H) : rI0 f (.int i) (.int j) H Q := ⟨_, _, rfl, rfl, q⟩
theorem v_rI {C : Int → Int → Prop} {f : Int → Int → V} {i j : Int} (hc : C i j) (q : Q (f i j) H) : rI C f (.int i) (.int j) H Q := ⟨_, _, rfl, rfl, hc, q⟩
theorem v_rU {f : Int → V} {i : Int} (q : Q (f i) H) : rU f (.int i) H Q := ⟨_, rfl, q⟩
variable {K : PySem.W.Frag}
theorem v_add_ii {i j : Int} (q : Q (.int (i + j)) H) : uAdd K (.int i) (.int j) H Q := .inl (.inl ⟨_, _, rfl, rfl, q⟩)
theorem v_add_ss {i j : Str} (hl : i.length + j.length ≤ sizeLine) (q : Q (.str (i ++ j)) H) : uAdd K (.str i) (.str j) H Q := .inl (.inr ⟨_, _, rfl, rfl, hl, q⟩)
theorem v_add_ll {a b : Addr} {xs ys : List V} (h1 : H a = some (.lst xs)) (h2 : H b = some (.lst ys)) (hl : xs.length + ys.length ≤ sizeLine)
    (q : ∀ p H', H p = none → Chg [] H H' → H' p = some (.lst (xs ++ ys)) → Q (.ref p) H') : uAdd K (.ref a) (.ref b) H Q :=
  .inr (.inl ⟨a, b, xs, ys, rfl, rfl, h1, h2, hl, fun p hp => q p _ hp (.new hp) upd_same⟩)
theorem v_mul_ii {i j : Int} (hc : CMul i j) (q : Q (.int (i * j)) H) : uMul (.int i) (.int j) H Q := .inl ⟨_, _, rfl, rfl, hc, q⟩
theorem v_eq_ii {i j : Int} (q : Q (.bl (decide (i = j))) H) : uEq K (.int i) (.int j) H Q := .inl (.inl ⟨rfl, by rw [dec_int, show (i == j) = decide (i = j) from rfl]; exact q⟩)
theorem v_ne_ii {i j : Int} (q : Q (.bl (!decide (i = j))) H) : uNe K (.int i) (.int j) H Q := .inl (.inl ⟨rfl, by rw [dec_int, show (i == j) = decide (i = j) from rfl]; exact q⟩)
theorem v_eq_ss {i j : Str} (q : Q (.bl (decide (i = j))) H) : uEq K (.str i) (.str j) H Q := .inl (.inl ⟨rfl, by rw [dec_str, show (i == j) = decide (i = j) from rfl]; exact q⟩)
theorem v_ne_ss {i j : Str} (q : Q (.bl (!decide (i = j))) H) : uNe K (.str i) (.str j) H Q := .inl (.inl ⟨rfl, by rw [dec_str, show (i == j) = decide (i = j) from rfl]; exact q⟩)
theorem v_eq_d {x y : V} {d e : PyData} (h1 : Dp K H x d) (h2 : Dp K H y e) (s1 : SeqAt.shaped d = true) (s2 : SeqAt.shaped e = true) (q : Q (.bl (PyData.eqv d e)) H) : uEq K x y H Q := .inl (.inr ⟨d, e, h1, h2, s1, s2, q⟩)
theorem v_ne_d {x y : V} {d e : PyData} (h1 : Dp K H x d) (h2 : Dp K H y e) (s1 : SeqAt.shaped d = true) (s2 : SeqAt.shaped e = true) (q : Q (.bl (!PyData.eqv d e)) H) : uNe K x y H Q := .inl (.inr ⟨d, e, h1, h2, s1, s2, q⟩)
theorem v_eq_bb {i j : Bool} (q : Q (.bl (i == j)) H) : uEq K (.bl i) (.bl j) H Q := .inl (.inl ⟨rfl, by rw [dec_bl]; exact q⟩)
theorem v_ne_bb {i j : Bool} (q : Q (.bl (!(i == j))) H) : uNe K (.bl i) (.bl j) H Q := .inl (.inl ⟨rfl, by rw [dec_bl]; exact q⟩)
theorem v_bits (h : te σ H fun x H1 => IsI x fun i => Q (.int (Builtin.Int.intBits i : Nat)) H1) : tBits te σ H Q := h
theorem v_lt_ii {i j : Int} (q : Q (.bl (decide (i < j))) H) : uLt (.int i) (.int j) H Q := .inl ⟨_, _, rfl, rfl, q⟩
theorem v_len_l {a : Addr} {xs : List V} (h : SqL K H a xs) (q : Q (.int xs.length) H) : uLen K [.ref a] H Q := .inl (.inl ⟨a, xs, rfl, .inl h, q⟩)
theorem v_len_t {a : Addr} {xs : List V} (h : SqT K H a xs) (q : Q (.int xs.length) H) : uLen K [.ref a] H Q := .inl (.inl ⟨a, xs, rfl, .inr h, q⟩)
theorem v_len_s {z : Str} (h : z.length ≤ sizeLine) (q : Q (.int z.length) H) : uLen K [.str z] H Q := .inl (.inr ⟨z, rfl, h, q⟩)
theorem v_ix_l {a : Addr} {xs : List V} {i : Int} {v : V} (h : SqL K H a xs) (hi : atI xs i = some v) (q : Q v H) : uIx K (.ref a) (.int i) H Q := .inl (.inl ⟨a, xs, i, v, rfl, rfl, h, hi, q⟩)
theorem v_ix_t {a : Addr} {xs : List V} {i : Int} {v : V} (h : SqT K H a xs) (hi : atI xs i = some v) (q : Q v H) : uIx K (.ref a) (.int i) H Q := .inl (.inr (.inl ⟨a, xs, i, v, rfl, rfl, h, hi, q⟩))
theorem v_ix_s {z : Str} {i : Int} {c : Nat} (hl : z.length ≤ sizeLine) (hi : atI z.cps.toList i = some c) (q : Q (.str ⟨#[c]⟩) H) : uIx K (.str z) (.int i) H Q := .inl (.inr (.inr ⟨z, i, c, rfl, rfl, hl, hi, q⟩))
theorem v_in_l {a : Addr} {xs : List V} {x : V} (h : SqL K H a xs) (fx : flatV x = true) (fs : xs.all flatV = true) (q : Q (.bl (inV x xs)) H) : uIn K false x (.ref a) H Q := .inl (.inl (.inl ⟨a, xs, rfl, .inl h, fx, fs, q⟩))
theorem v_nin_l {a : Addr} {xs : List V} {x : V} (h : SqL K H a xs) (fx : flatV x = true) (fs : xs.all flatV = true) (q : Q (.bl (!inV x xs)) H) : uIn K true x (.ref a) H Q := .inl (.inl (.inl ⟨a, xs, rfl, .inl h, fx, fs, q⟩))
theorem v_in_t {a : Addr} {xs : List V} {x : V} (h : SqT K H a xs) (fx : flatV x = true) (fs : xs.all flatV = true) (q : Q (.bl (inV x xs)) H) : uIn K false x (.ref a) H Q := .inl (.inl (.inl ⟨a, xs, rfl, .inr h, fx, fs, q⟩))
theorem v_in_d {a : Addr} {y : V} {o : Option V} (g : DGet H a y o) (q : Q (.bl o.isSome) H) : uIn K false y (.ref a) H Q := .inl (.inr ⟨a, o, rfl, g, q⟩)
theorem v_nin_d {a : Addr} {y : V} {o : Option V} (g : DGet H a y o) (q : Q (.bl (!o.isSome)) H) : uIn K true y (.ref a) H Q := .inl (.inr ⟨a, o, rfl, g, q⟩)
theorem inV_strs (z : Str) (zs : List Str) : inV (.str z) (zs.map V.str) = decide (z ∈ zs) := by
  unfold inV
  induction zs with
  | nil => rfl
  | cons y zs ih =>
    rw [List.map_cons, List.any_cons, ih, show eqV (.str y) (.str z) = (y == z) from rfl]
    by_cases h : y = z
    · subst h; simp
    · have h' : ¬ z = y := fun e => h e.symm
      simp [h, h']
theorem flat_strs (zs : List Str) : (zs.map V.str).all flatV = true := by rw [List.all_map]; exact List.all_eq_true.mpr fun _ _ => rfl
theorem flat_ints (zs : List Int) : (zs.map V.int).all flatV = true := by rw [List.all_map]; exact List.all_eq_true.mpr fun _ _ => rfl
theorem cut_mem {xs : List V} {lo hi : Option Int} {x : V} (h : x ∈ cutV xs lo hi) : x ∈ xs := List.mem_of_mem_drop (List.mem_of_mem_take h)
/-- an item at some place -/
theorem atI_some {α : Type} {xs : List α} {i : Int} (h0 : 0 ≤ i) (h1 : i < xs.length) : ∃ v, atI xs i = some v ∧ xs[i.toNat]? = some v := by
  obtain ⟨k, rfl⟩ := Int.eq_ofNat_of_zero_le h0
  have hk : k < xs.length := by omega
  exact ⟨xs[k], atI_nat (List.getElem?_eq_getElem hk), by simpa using List.getElem?_eq_getElem hk⟩
theorem v_ix_lany {a : Addr} {xs : List V} {i : Int} (h : SqL K H a xs) (h0 : 0 ≤ i) (h1 : i < xs.length) (q : ∀ v, xs[i.toNat]? = some v → Q v H) : uIx K (.ref a) (.int i) H Q := by
  obtain ⟨v, e1, e2⟩ := atI_some (xs := xs) h0 h1
  exact v_ix_l h e1 (q v e2)
theorem v_ix_tany {a : Addr} {xs : List V} {i : Int} (h : SqT K H a xs) (h0 : 0 ≤ i) (h1 : i < xs.length) (q : ∀ v, xs[i.toNat]? = some v → Q v H) : uIx K (.ref a) (.int i) H Q := by
  obtain ⟨v, e1, e2⟩ := atI_some (xs := xs) h0 h1
  exact v_ix_t h e1 (q v e2)
theorem v_sl_l {a : Addr} {xs : List V} {lo hi : Option Int} (h : SqL K H a xs) (q : ∀ p H', H p = none → Chg [] H H' → H' p = some (.lst (cutV xs lo hi)) → Q (.ref p) H') : uSl K (.ref a) lo hi H Q :=
  .inl ⟨a, xs, rfl, h, fun p hp => q p _ hp (.new hp) upd_same⟩
theorem cutV_whole {xs : List V} {lo hi : Option Int} (h : HT.sIx xs.length 0 lo = 0 ∧ HT.sIx xs.length xs.length hi = xs.length) : cutV xs lo hi = xs := by
  unfold cutV
  rw [h.1, h.2]
  simp
theorem v_sl_t {a : Addr} {xs : List V} {lo hi : Option Int} (h : H a = some (.tup xs)) (q : ∀ p H', Chg [] H H' → H' p = some (.tup (cutV xs lo hi)) → Q (.ref p) H') : uSl K (.ref a) lo hi H Q :=
  .inr ⟨a, xs, rfl, SqT.of h, fun z => q a H .refl (by rw [cutV_whole z]; exact h), fun _ p hp => q p _ (.new hp) upd_same⟩
theorem v_add_tt {a b : Addr} {xs ys : List V} (h1 : H a = some (.tup xs)) (h2 : H b = some (.tup ys)) (hl : xs.length + ys.length ≤ sizeLine)
    (q : ∀ p H', Chg [] H H' → H' p = some (.tup (xs ++ ys)) → Q (.ref p) H') : uAdd K (.ref a) (.ref b) H Q :=
  .inr (.inr ⟨a, b, xs, ys, rfl, rfl, SqT.of h1, SqT.of h2, hl, fun e => q b H .refl (by rw [e]; exact h2), fun _ e => q a H .refl (by rw [e, List.append_nil]; exact h1), fun _ _ p hp => q p _ (.new hp) upd_same⟩)
theorem v_pop0 {a : Addr} {x : V} {xs : List V} (h : H a = some (.lst (x :: xs))) (q : ∀ H', Chg [a] H H' → H' a = some (.lst xs) → Q x H') : rPopAt (.ref a) [.int 0] H Q :=
  ⟨a, x :: xs, 0, 0, x, rfl, rfl, h, by decide, by decide, by simp [seqIndex?], rfl, q _ (Chg.set h (by intro _ z; cases z)) upd_same⟩
theorem v_sl {rr : V → Option Int → Option Int → Hp → VK → Prop} {tl th : TO} (h : te σ H fun x H1 => tl σ H1 fun l H2 => th σ H2 fun u H3 => rr x l u H3 Q) : tSl rr te tl th σ H Q := h
theorem v_nopart {Q : Option Int → Hp → Prop} (h : Q none H) : tNoPart σ H Q := h
theorem v_isi {P : Int → Prop} {i : Int} (h : P i) : IsI (.int i) P := ⟨i, rfl, h⟩
theorem v_part {Q : Option Int → Hp → Prop} (h : te σ H fun x H1 => IsI x fun i => Q (some i) H1) : tPart te σ H Q := h
theorem v_append {a : Addr} {xs : List V} {y : V} (h : H a = some (.lst xs)) (hl : xs.length < sizeLine) (q : ∀ H', Chg [a] H H' → H' a = some (.lst (xs ++ [y])) → Q .non H') : rAppend (.ref a) [y] H Q :=
  ⟨a, xs, y, rfl, rfl, h, hl, q _ (.set h (by intro _ e; cases e)) upd_same⟩
theorem v_cnt {a : Addr} {xs : List V} {y : V} (h : SqL K H a xs) (fy : flatV y = true) (fx : xs.all flatV = true) (q : Q (.int (xs.countP fun z => eqV z y : Nat)) H) : uCnt K (.ref a) [y] H Q := ⟨a, xs, y, rfl, rfl, h, fy, fx, q⟩
theorem v_max2 {i j : Int} (q : Q (.int (if j > i then j else i)) H) : uMax2 [.int i, .int j] H Q := ⟨_, _, rfl, q⟩
theorem v_min2 {i j : Int} (q : Q (.int (if j < i then j else i)) H) : uMin2 [.int i, .int j] H Q := ⟨_, _, rfl, q⟩
theorem v_int_i {i : Int} (q : Q (.int i) H) : uInt1 [.int i] H Q := .inl ⟨_, rfl, q⟩
theorem v_int_b {k : Bool} (q : Q (.int (if k then 1 else 0)) H) : uInt1 [.bl k] H Q := .inr ⟨_, rfl, q⟩
theorem v_sorted_i {a : Addr} {ns : List Int} (h : SqL K H a (ns.map V.int)) (q : ∀ (ms : List Int) p H', ms.Perm ns → ms.Pairwise (· ≤ ·) → H p = none → Chg [] H H' → H' p = some (.lst (ms.map V.int)) → Q (.ref p) H') : uSorted K [.ref a] H Q :=
  .inl (.inl ⟨a, ns, rfl, h, fun ms p h1 h2 hp => q ms p _ h1 h2 hp (.new hp) upd_same⟩)
theorem v_max_i {a : Addr} {ns : List Int} (h : SqL K H a (ns.map V.int)) (hn : 0 < ns.length) (q : ∀ m, m ∈ ns → (∀ y, y ∈ ns → y ≤ m) → Q (.int m) H) : uMax K [.ref a] H Q := ⟨a, ns, rfl, h, hn, q⟩
end
theorem v_raise {W : L2.WX} {D : Ends} {cls : Value} {σ : L2.St} {H : Hp} (h : W cls none σ H) : tRaise W cls D σ H := h
theorem v_isi_i_int {K : PySem.W.Frag} {i : Int} {H : Hp} {Q : VK} (q : Q (.bl true) H) : uIsi K [(.int i), .ty "int"] H Q := v_isi_flat rfl (by simp [sixT]) q
theorem v_isi_i_bool {K : PySem.W.Frag} {i : Int} {H : Hp} {Q : VK} (q : Q (.bl false) H) : uIsi K [(.int i), .ty "bool"] H Q := v_isi_flat rfl (by simp [sixT]) q
theorem v_isi_i_str {K : PySem.W.Frag} {i : Int} {H : Hp} {Q : VK} (q : Q (.bl false) H) : uIsi K [(.int i), .ty "str"] H Q := v_isi_flat rfl (by simp [sixT]) q
theorem v_isi_i_tuple {K : PySem.W.Frag} {i : Int} {H : Hp} {Q : VK} (q : Q (.bl false) H) : uIsi K [(.int i), .ty "tuple"] H Q := v_isi_flat rfl (by simp [sixT]) q
theorem v_isi_i_list {K : PySem.W.Frag} {i : Int} {H : Hp} {Q : VK} (q : Q (.bl false) H) : uIsi K [(.int i), .ty "list"] H Q := v_isi_flat rfl (by simp [sixT]) q
theorem v_isi_i_dict {K : PySem.W.Frag} {i : Int} {H : Hp} {Q : VK} (q : Q (.bl false) H) : uIsi K [(.int i), .ty "dict"] H Q := v_isi_flat rfl (by simp [sixT]) q
theorem v_isi_b_int {K : PySem.W.Frag} {i : Bool} {H : Hp} {Q : VK} (q : Q (.bl true) H) : uIsi K [(.bl i), .ty "int"] H Q := v_isi_flat rfl (by simp [sixT]) q
theorem v_isi_b_bool {K : PySem.W.Frag} {i : Bool} {H : Hp} {Q : VK} (q : Q (.bl true) H) : uIsi K [(.bl i), .ty "bool"] H Q := v_isi_flat rfl (by simp [sixT]) q
theorem v_isi_b_str {K : PySem.W.Frag} {i : Bool} {H : Hp} {Q : VK} (q : Q (.bl false) H) : uIsi K [(.bl i), .ty "str"] H Q := v_isi_flat rfl (by simp [sixT]) q
theorem v_isi_b_tuple {K : PySem.W.Frag} {i : Bool} {H : Hp} {Q : VK} (q : Q (.bl false) H) : uIsi K [(.bl i), .ty "tuple"] H Q := v_isi_flat rfl (by simp [sixT]) q
theorem v_isi_b_list {K : PySem.W.Frag} {i : Bool} {H : Hp} {Q : VK} (q : Q (.bl false) H) : uIsi K [(.bl i), .ty "list"] H Q := v_isi_flat rfl (by simp [sixT]) q
theorem v_isi_b_dict {K : PySem.W.Frag} {i : Bool} {H : Hp} {Q : VK} (q : Q (.bl false) H) : uIsi K [(.bl i), .ty "dict"] H Q := v_isi_flat rfl (by simp [sixT]) q
theorem v_isi_s_int {K : PySem.W.Frag} {i : Str} {H : Hp} {Q : VK} (q : Q (.bl false) H) : uIsi K [(.str i), .ty "int"] H Q := v_isi_flat rfl (by simp [sixT]) q
theorem v_isi_s_bool {K : PySem.W.Frag} {i : Str} {H : Hp} {Q : VK} (q : Q (.bl false) H) : uIsi K [(.str i), .ty "bool"] H Q := v_isi_flat rfl (by simp [sixT]) q
theorem v_isi_s_str {K : PySem.W.Frag} {i : Str} {H : Hp} {Q : VK} (q : Q (.bl true) H) : uIsi K [(.str i), .ty "str"] H Q := v_isi_flat rfl (by simp [sixT]) q
theorem v_isi_s_tuple {K : PySem.W.Frag} {i : Str} {H : Hp} {Q : VK} (q : Q (.bl false) H) : uIsi K [(.str i), .ty "tuple"] H Q := v_isi_flat rfl (by simp [sixT]) q
theorem v_isi_s_list {K : PySem.W.Frag} {i : Str} {H : Hp} {Q : VK} (q : Q (.bl false) H) : uIsi K [(.str i), .ty "list"] H Q := v_isi_flat rfl (by simp [sixT]) q
theorem v_isi_s_dict {K : PySem.W.Frag} {i : Str} {H : Hp} {Q : VK} (q : Q (.bl false) H) : uIsi K [(.str i), .ty "dict"] H Q := v_isi_flat rfl (by simp [sixT]) q
theorem v_isi_n_int {K : PySem.W.Frag}  {H : Hp} {Q : VK} (q : Q (.bl false) H) : uIsi K [.non, .ty "int"] H Q := v_isi_flat rfl (by simp [sixT]) q
theorem v_isi_n_bool {K : PySem.W.Frag}  {H : Hp} {Q : VK} (q : Q (.bl false) H) : uIsi K [.non, .ty "bool"] H Q := v_isi_flat rfl (by simp [sixT]) q
theorem v_isi_n_str {K : PySem.W.Frag}  {H : Hp} {Q : VK} (q : Q (.bl false) H) : uIsi K [.non, .ty "str"] H Q := v_isi_flat rfl (by simp [sixT]) q
theorem v_isi_n_tuple {K : PySem.W.Frag}  {H : Hp} {Q : VK} (q : Q (.bl false) H) : uIsi K [.non, .ty "tuple"] H Q := v_isi_flat rfl (by simp [sixT]) q
theorem v_isi_n_list {K : PySem.W.Frag}  {H : Hp} {Q : VK} (q : Q (.bl false) H) : uIsi K [.non, .ty "list"] H Q := v_isi_flat rfl (by simp [sixT]) q
theorem v_isi_n_dict {K : PySem.W.Frag}  {H : Hp} {Q : VK} (q : Q (.bl false) H) : uIsi K [.non, .ty "dict"] H Q := v_isi_flat rfl (by simp [sixT]) q
theorem v_isi_t_int {K : PySem.W.Frag} {a : Addr} {xs : List V} {H : Hp} {Q : VK} (h : H a = some (.tup xs)) (q : Q (.bl false) H) : uIsi K [.ref a, .ty "int"] H Q := v_isi_tup h (by simp [sixT]) q
theorem v_isi_t_bool {K : PySem.W.Frag} {a : Addr} {xs : List V} {H : Hp} {Q : VK} (h : H a = some (.tup xs)) (q : Q (.bl false) H) : uIsi K [.ref a, .ty "bool"] H Q := v_isi_tup h (by simp [sixT]) q
theorem v_isi_t_str {K : PySem.W.Frag} {a : Addr} {xs : List V} {H : Hp} {Q : VK} (h : H a = some (.tup xs)) (q : Q (.bl false) H) : uIsi K [.ref a, .ty "str"] H Q := v_isi_tup h (by simp [sixT]) q
theorem v_isi_t_tuple {K : PySem.W.Frag} {a : Addr} {xs : List V} {H : Hp} {Q : VK} (h : H a = some (.tup xs)) (q : Q (.bl true) H) : uIsi K [.ref a, .ty "tuple"] H Q := v_isi_tup h (by simp [sixT]) q
theorem v_isi_t_list {K : PySem.W.Frag} {a : Addr} {xs : List V} {H : Hp} {Q : VK} (h : H a = some (.tup xs)) (q : Q (.bl false) H) : uIsi K [.ref a, .ty "list"] H Q := v_isi_tup h (by simp [sixT]) q
theorem v_isi_t_dict {K : PySem.W.Frag} {a : Addr} {xs : List V} {H : Hp} {Q : VK} (h : H a = some (.tup xs)) (q : Q (.bl false) H) : uIsi K [.ref a, .ty "dict"] H Q := v_isi_tup h (by simp [sixT]) q
theorem v_isi_l_int {K : PySem.W.Frag} {a : Addr} {xs : List V} {H : Hp} {Q : VK} (h : H a = some (.lst xs)) (q : Q (.bl false) H) : uIsi K [.ref a, .ty "int"] H Q := v_isi_lst h (by simp [sixT]) q
theorem v_isi_l_bool {K : PySem.W.Frag} {a : Addr} {xs : List V} {H : Hp} {Q : VK} (h : H a = some (.lst xs)) (q : Q (.bl false) H) : uIsi K [.ref a, .ty "bool"] H Q := v_isi_lst h (by simp [sixT]) q
theorem v_isi_l_str {K : PySem.W.Frag} {a : Addr} {xs : List V} {H : Hp} {Q : VK} (h : H a = some (.lst xs)) (q : Q (.bl false) H) : uIsi K [.ref a, .ty "str"] H Q := v_isi_lst h (by simp [sixT]) q
theorem v_isi_l_tuple {K : PySem.W.Frag} {a : Addr} {xs : List V} {H : Hp} {Q : VK} (h : H a = some (.lst xs)) (q : Q (.bl false) H) : uIsi K [.ref a, .ty "tuple"] H Q := v_isi_lst h (by simp [sixT]) q
theorem v_isi_l_list {K : PySem.W.Frag} {a : Addr} {xs : List V} {H : Hp} {Q : VK} (h : H a = some (.lst xs)) (q : Q (.bl true) H) : uIsi K [.ref a, .ty "list"] H Q := v_isi_lst h (by simp [sixT]) q
theorem v_isi_l_dict {K : PySem.W.Frag} {a : Addr} {xs : List V} {H : Hp} {Q : VK} (h : H a = some (.lst xs)) (q : Q (.bl false) H) : uIsi K [.ref a, .ty "dict"] H Q := v_isi_lst h (by simp [sixT]) q
/-! dicts -/
section
variable {H : Hp} {Q : VK} {K : PySem.W.Frag} {a : Addr} {kvs : List (Key × V)}
theorem v_ix_d {y v : V} (g : DGet H a y (some v)) (q : Q v H) : uIx K (.ref a) y H Q := .inr ⟨a, v, rfl, g, q⟩
theorem v_set_d {y v : V} {k : Key} {Q : Hp → Prop} (e : H a = some (.dK kvs)) (hy : y = kV k) (hl : kvs.length < sizeLine) (q : ∀ H', Chg [a] H H' → H' a = some (.dK (putK kvs k v)) → Q H') : uSet (.ref a) y v H Q := by
  subst hy
  exact .inr ⟨a, _, rfl, DPut.k e hl, q _ (Chg.set e (by intro _ z; cases z)) upd_same⟩
theorem v_set_t {v : V} {kvs : List (List Key × V)} {k : List Key} {b : Addr} {Q : Hp → Prop} (e : H a = some (.dT kvs)) (eb : H b = some (.tup (k.map kV))) (hl : kvs.length < sizeLine) (q : ∀ H', Chg [a] H H' → H' a = some (.dT (putK kvs k v)) → Q H') : uSet (.ref a) (.ref b) v H Q :=
  .inr ⟨a, _, rfl, DPut.t e eb hl, q _ (Chg.set e (by intro _ z; cases z)) upd_same⟩
theorem v_set_l {i : Int} {v : V} {xs : List V} {j : Nat} {Q : Hp → Prop} (e : H a = some (.lst xs)) (hj : ixN xs.length i = some j) (q : ∀ H', Chg [a] H H' → H' a = some (.lst (xs.set j v)) → Q H') : uSet (.ref a) (.int i) v H Q :=
  .inl ⟨a, xs, i, j, rfl, rfl, e, hj, q _ (Chg.set e (by intro _ z; cases z)) upd_same⟩
theorem v_list_d (e : H a = some (.dK kvs)) (q : ∀ p H', H p = none → Chg [] H H' → H' p = some (.lst (kvs.map fun kv => kV kv.1)) → Q (.ref p) H') : uList K [.ref a] H Q :=
  .inr ⟨a, kvs, rfl, e, fun p hp => q p _ hp (.new hp) upd_same⟩
theorem v_list_l {xs : List V} (e : SqL K H a xs) (q : ∀ p H', H p = none → Chg [] H H' → H' p = some (.lst xs) → Q (.ref p) H') : uList K [.ref a] H Q :=
  .inl ⟨a, xs, rfl, .inl e, fun p hp => q p _ hp (.new hp) upd_same⟩
theorem v_list_t {xs : List V} (e : SqT K H a xs) (q : ∀ p H', H p = none → Chg [] H H' → H' p = some (.lst xs) → Q (.ref p) H') : uList K [.ref a] H Q :=
  .inl ⟨a, xs, rfl, .inr e, fun p hp => q p _ hp (.new hp) upd_same⟩
theorem v_tuple_l {xs : List V} (e : SqL K H a xs) (q : ∀ p H', H p = none → Chg [] H H' → H' p = some (.tup xs) → Q (.ref p) H') : uTuple K [.ref a] H Q :=
  ⟨a, xs, rfl, .inl ⟨e, fun p hp => q p _ hp (.new hp) upd_same⟩⟩
theorem v_tuple_t {xs : List V} (e : SqT K H a xs) (q : Q (.ref a) H) : uTuple K [.ref a] H Q := ⟨a, xs, rfl, .inr ⟨e, q⟩⟩
theorem v_sub {to ti : TE} {t : TSet} {v : V} {σ : L2.St} {n : L2.St → Hp → Prop} (h : to σ H fun o H1 => ti σ H1 fun i H2 => t o i v H2 fun H3 => n σ H3) : gSub to ti t v σ H n := h
/-- dict displays -/
def DispE (p : Addr) (ps : List (V × V)) (H2 : Hp) (Q : VK) : Prop := H2 p = some (.dK []) ∧ ∃ kvs : List (Key × V), ps = kvs.map (fun kv => (kV kv.1, kv.2)) ∧ kvs.length ≤ 15 ∧ Q (.ref p) (upd H2 p (.dK (mergeK [] kvs)))
theorem v_disp {trs : List (TE × TE)} {σ : L2.St} (h : ∀ p H', H p = none → Chg [] H H' → H' p = some (.dK []) → tPairs trs σ H' fun ps H2 => DispE p ps H2 Q) : tDisp trs σ H Q := fun p hp => h p _ hp (.new hp) upd_same
theorem v_pcons {tk tv : TE} {trs : List (TE × TE)} {σ : L2.St} {Q : List (V × V) → Hp → Prop} (h : tk σ H fun x H1 => tv σ H1 fun y H2 => tPairs trs σ H2 fun ps H3 => Q ((x, y) :: ps) H3) : tPairs ((tk, tv) :: trs) σ H Q := h
theorem v_pnil {σ : L2.St} {Q : List (V × V) → Hp → Prop} (h : Q [] H) : tPairs [] σ H Q := h
theorem v_dispE {p : Addr} {ps : List (V × V)} (kvs : List (Key × V)) (e : H p = some (.dK [])) (hp : ps = kvs.map (fun kv => (kV kv.1, kv.2))) (hl : kvs.length ≤ 15) (q : ∀ H', Chg [p] H H' → H' p = some (.dK (mergeK [] kvs)) → Q (.ref p) H') : DispE p ps H Q :=
  ⟨e, kvs, hp, hl, q _ (Chg.set e (by intro _ z; cases z)) upd_same⟩
theorem v_dnewK {σ : L2.St} (q : ∀ p H', H p = none → Chg [] H H' → H' p = some (.dK []) → Q (.ref p) H') : tDNewK σ H Q := fun p hp => q p _ hp (.new hp) upd_same
theorem v_dnewT {σ : L2.St} (q : ∀ p H', H p = none → Chg [] H H' → H' p = some (.dT []) → Q (.ref p) H') : tDNewT σ H Q := fun p hp => q p _ hp (.new hp) upd_same
end
theorem v_eq_dT {H : Hp} {Q : VK} {K : PySem.W.Frag} {a b : Addr} {ks ls : List (List Key × V)} (ha : H a = some (.dT ks)) (hb : H b = some (.dT ls)) (hl : ks.length = ls.length) (h : ∀ p ∈ ks, valV ls p.1 = some p.2 ∧ flatB p.2 = true) (q : Q (.bl true) H) : uEq K (.ref a) (.ref b) H Q :=
  .inr (.inr ⟨a, b, ks, ls, rfl, rfl, ha, hb, hl, h, q⟩)
theorem v_ne_dT {H : Hp} {Q : VK} {K : PySem.W.Frag} {a b : Addr} {ks ls : List (List Key × V)} (ha : H a = some (.dT ks)) (hb : H b = some (.dT ls)) (hl : ks.length = ls.length) (h : ∀ p ∈ ks, valV ls p.1 = some p.2 ∧ flatB p.2 = true) (q : Q (.bl false) H) : uNe K (.ref a) (.ref b) H Q :=
  .inr (.inr ⟨a, b, ks, ls, rfl, rfl, ha, hb, hl, h, q⟩)
section
variable {κ : Type} [DecidableEq κ]
theorem valV_mem {kvs : List (κ × V)} (hn : (kvs.map (·.1)).Nodup) {p : κ × V} (h : p ∈ kvs) : valV kvs p.1 = some p.2 := by
  induction kvs with
  | nil => cases h
  | cons q r ih =>
    rw [List.map_cons, List.nodup_cons] at hn
    rcases List.mem_cons.mp h with rfl | h
    · exact valV_pos rfl
    · have : ¬ q.1 = p.1 := fun e => hn.1 (by rw [e]; exact List.mem_map_of_mem h)
      rw [valV_neg this]; exact ih hn.2 h
theorem nd_put (kvs : List (κ × V)) (k : κ) (v : V) (hn : (kvs.map (·.1)).Nodup) : ((putK kvs k v).map (·.1)).Nodup := by
  cases h : valV kvs k with
  | none => exact nd_putK v hn h
  | some y =>
    have e : (putK kvs k v).map (·.1) = kvs.map (·.1) := by
      unfold putK
      rw [valV_any, h, if_pos (show (some y).isSome = true from rfl), List.map_map]
      apply List.map_congr_left
      intro kv _
      show (if kv.1 = k then (kv.1, v) else kv).1 = kv.1
      split <;> rfl
    rw [e]; exact hn
theorem assoc_len {ks ls : List (κ × V)} (h1 : (ks.map (·.1)).Nodup) (h2 : (ls.map (·.1)).Nodup) (h : ∀ k, valV ks k = valV ls k) : ks.length = ls.length := by
  have p : (ks.map (·.1)).Perm (ls.map (·.1)) := (List.perm_ext_iff_of_nodup h1 h2).mpr fun k => by
    constructor
    · intro m
      cases e : valV ls k with
      | none => rw [← h] at e; exact absurd m (valV_not e)
      | some y => exact valV_in e
    · intro m
      cases e : valV ks k with
      | none => rw [h] at e; exact absurd m (valV_not e)
      | some y => exact valV_in e
  have := p.length_eq
  simpa using this
end
/-! lists of ints and texts as data -/
theorem dpAll_ints {K : PySem.W.Frag} {H : Hp} : ∀ ns : List Int, DpAll K H (ns.map V.int) (ns.map PyData.int)
  | [] => .nil
  | n :: r => .cons (.int n) (dpAll_ints r)
theorem eqvAll_ints : ∀ ns ms : List Int, PyData.eqvAll (ns.map PyData.int) (ms.map PyData.int) = decide (ns = ms)
  | [], [] => rfl
  | [], _ :: _ => rfl
  | _ :: _, [] => rfl
  | n :: r, m :: t => by
    show ((n == m) && PyData.eqvAll (r.map PyData.int) (t.map PyData.int)) = _
    rw [eqvAll_ints r t]
    by_cases h : n = m
    · subst h; simp
    · simp [h]
theorem canLayAll_ints : ∀ ns : List Int, PyData.canLayAll0 (ns.map PyData.int) = true
  | [] => rfl
  | n :: r => by
    show (PyData.canLay0 (.int n) && PyData.canLayAll0 (r.map PyData.int)) = true
    rw [canLayAll_ints r]; rfl
theorem depthAll_ints : ∀ ns : List Int, PyData.depthAll (ns.map PyData.int) ≤ 1
  | [] => by decide
  | n :: r => by
    have := depthAll_ints r
    show max (PyData.depth (.int n)) (PyData.depthAll (r.map PyData.int)) ≤ 1
    have e : PyData.depth (.int n) ≤ 1 := Nat.zero_le 1
    omega
theorem shaped_ints (ns : List Int) : SeqAt.shaped (.list (ns.map PyData.int)) = true := by
  unfold SeqAt.shaped
  rw [Bool.and_eq_true, decide_eq_true_eq]
  refine ⟨canLayAll_ints ns, ?_⟩
  show PyData.depthAll (ns.map PyData.int) + 1 ≤ 64
  have := depthAll_ints ns
  omega
section
variable {H : Hp} {Q : VK} {K : PySem.W.Frag} {a b : Addr} {ns ms : List Int}
theorem v_eq_ints (h1 : SqL K H a (ns.map V.int)) (h2 : SqL K H b (ms.map V.int)) (q : Q (.bl (decide (ns = ms))) H) : uEq K (.ref a) (.ref b) H Q :=
  v_eq_d (.lst h1 (dpAll_ints ns)) (.lst h2 (dpAll_ints ms)) (shaped_ints ns) (shaped_ints ms) (by
    show Q (.bl (PyData.eqvAll (ns.map PyData.int) (ms.map PyData.int))) H
    rw [eqvAll_ints]; exact q)
theorem v_ne_ints (h1 : SqL K H a (ns.map V.int)) (h2 : SqL K H b (ms.map V.int)) (q : Q (.bl (!decide (ns = ms))) H) : uNe K (.ref a) (.ref b) H Q :=
  v_ne_d (.lst h1 (dpAll_ints ns)) (.lst h2 (dpAll_ints ms)) (shaped_ints ns) (shaped_ints ms) (by
    show Q (.bl (!PyData.eqvAll (ns.map PyData.int) (ms.map PyData.int))) H
    rw [eqvAll_ints]; exact q)
theorem v_eq_nil2 (h1 : SqL K H a []) (h2 : SqL K H b []) (q : Q (.bl true) H) : uEq K (.ref a) (.ref b) H Q := v_eq_ints (ns := []) (ms := []) h1 h2 q
theorem v_ne_nil2 (h1 : SqL K H a []) (h2 : SqL K H b []) (q : Q (.bl false) H) : uNe K (.ref a) (.ref b) H Q := v_ne_ints (ns := []) (ms := []) h1 h2 q
end
/-! ## 10. loops -/
def ForQ (J : It) (g : TG) (tb : TS) (D : Ends) (σ : L2.St) (H1 : Hp) : Prop := ∃ W : Nat → Nat → L2.St → Hp → Prop, (∃ m, W 0 m σ H1) ∧ ∀ i m σ H, W i m σ H →
  (J.stop i H ∧ D.nx σ H) ∨ (J.go i H ∧ ∃ N : L2.St → Hp → Prop, (∀ σ' H', N σ' H' → ∃ m', m' < m ∧ W (i + 1) m' σ' H') ∧ ∀ x H', J.yld i H x H' → g x σ H' fun σ2 H2 => tb { D with nx := N, ct := N, bk := D.nx } σ2 H2)
section
variable {g : TG} {tb : TS} {n : L2.St → Hp → Prop} {r : VK} {b c : L2.St → Hp → Prop} {σ : L2.St} {H : Hp} {K : PySem.W.Frag} {te : TE} {ta : TA} {Q : VK}
theorem v_for {wi : TI} (h : wi σ H fun J H1 => ForQ J g tb ⟨n, r, b, c⟩ σ H1) : tFor wi g tb ⟨n, r, b, c⟩ σ H := h
def Rng1 (vs : List V) (H : Hp) (R : It → Hp → Prop) : Prop := ∃ j : Int, vs = [.int j] ∧ -(2 ^ 62) ≤ j ∧ j < 2 ^ 62 ∧ R (Itr 0 j.toNat) H
def Rng2 (vs : List V) (H : Hp) (R : It → Hp → Prop) : Prop := ∃ i j : Int, vs = [.int i, .int j] ∧ (-(2 ^ 62) ≤ i ∧ i < 2 ^ 62 ∧ -(2 ^ 62) ≤ j ∧ j < 2 ^ 62) ∧ R (Itr i (j - i).toNat) H
def Rng3 (vs : List V) (H : Hp) (R : It → Hp → Prop) : Prop := ∃ (i j c : Int) (n : Nat), vs = [.int i, .int j, .int c] ∧ RgC i j c n ∧ R (Itc i c n) H
theorem v_rng1 {R : It → Hp → Prop} (h : ta σ H fun vs H1 => Rng1 vs H1 R) : iRng1 ta σ H R := h
theorem v_rng2 {R : It → Hp → Prop} (h : ta σ H fun vs H1 => Rng2 vs H1 R) : iRng2 ta σ H R := h
theorem v_rng3 {R : It → Hp → Prop} (h : ta σ H fun vs H1 => Rng3 vs H1 R) : iRng3 ta σ H R := h
theorem v_rng1' {R : It → Hp → Prop} {j : Int} (h1 : -(2 ^ 62) ≤ j) (h2 : j < 2 ^ 62) (h : R (Itr 0 j.toNat) H) : Rng1 [.int j] H R := ⟨j, rfl, h1, h2, h⟩
theorem v_rng2' {R : It → Hp → Prop} {i j : Int} (h1 : -(2 ^ 62) ≤ i) (h2 : i < 2 ^ 62) (h3 : -(2 ^ 62) ≤ j) (h4 : j < 2 ^ 62) (h : R (Itr i (j - i).toNat) H) : Rng2 [.int i, .int j] H R := ⟨i, j, rfl, ⟨h1, h2, h3, h4⟩, h⟩
theorem v_rng3' {R : It → Hp → Prop} {i j c : Int} {n : Nat} (h1 : RgC i j c n) (h : R (Itc i c n) H) : Rng3 [.int i, .int j, .int c] H R := ⟨i, j, c, n, rfl, h1, h⟩
theorem v_it {R : It → Hp → Prop} (h : te σ H fun x H1 => ItV K x H1 R) : uIt K te σ H R := h
theorem v_it_l {R : It → Hp → Prop} {a : Addr} {xs : List V} (hl : SqL K H a xs) (h : R (Itl K a) H) : ItV K (.ref a) H R := .inl ⟨a, rfl, ⟨xs, hl⟩, h⟩
theorem v_it_t {R : It → Hp → Prop} {a : Addr} {xs : List V} (hl : SqT K H a xs) (h : R (Itt K a) H) : ItV K (.ref a) H R := .inr (.inl ⟨a, rfl, ⟨xs, hl⟩, h⟩)
theorem v_it_s {R : It → Hp → Prop} {z : Str} (h : R (Its z) H) : ItV K (.str z) H R := .inr (.inr ⟨z, rfl, h⟩)
theorem v_for_range {lo : Int} {m : Nat} (Pv : Nat → L2.St → Hp → Prop) (h0 : Pv 0 σ H)
    (hs : ∀ i σ H, i < m → Pv i σ H → g (.int (lo + i)) σ H fun σ2 H2 => tb ⟨Pv (i + 1), r, n, Pv (i + 1)⟩ σ2 H2) (hd : ∀ σ H, Pv m σ H → n σ H) : ForQ (Itr lo m) g tb ⟨n, r, b, c⟩ σ H := for_range Pv h0 hs hd
theorem v_for_rangeC {lo st : Int} {m : Nat} (Pv : Nat → L2.St → Hp → Prop) (h0 : Pv 0 σ H)
    (hs : ∀ i σ H, i < m → Pv i σ H → g (.int (lo + (i : Nat) * st)) σ H fun σ2 H2 => tb ⟨Pv (i + 1), r, n, Pv (i + 1)⟩ σ2 H2) (hd : ∀ σ H, Pv m σ H → n σ H) : ForQ (Itc lo st m) g tb ⟨n, r, b, c⟩ σ H := for_rangeC Pv h0 hs hd
theorem v_for_list {a : Addr} {xs : List V} (Pv : Nat → L2.St → Hp → Prop) (h0 : Pv 0 σ H) (hl : ∀ i σ H, i ≤ xs.length → Pv i σ H → SqL K H a xs)
    (hs : ∀ i x σ H, xs[i]? = some x → Pv i σ H → g x σ H fun σ2 H2 => tb ⟨Pv (i + 1), r, n, Pv (i + 1)⟩ σ2 H2) (hd : ∀ σ H, Pv xs.length σ H → n σ H) : ForQ (Itl K a) g tb ⟨n, r, b, c⟩ σ H := for_list Pv h0 hl hs hd
theorem v_for_tup {a : Addr} {xs : List V} (Pv : Nat → L2.St → Hp → Prop) (h0 : Pv 0 σ H) (hl : ∀ i σ H, i ≤ xs.length → Pv i σ H → SqT K H a xs)
    (hs : ∀ i x σ H, xs[i]? = some x → Pv i σ H → g x σ H fun σ2 H2 => tb ⟨Pv (i + 1), r, n, Pv (i + 1)⟩ σ2 H2) (hd : ∀ σ H, Pv xs.length σ H → n σ H) : ForQ (Itt K a) g tb ⟨n, r, b, c⟩ σ H := for_tup Pv h0 hl hs hd
/-- a while: what holds ahead of each turn, a number that falls -/
def WT (W : Nat → L2.St → Hp → Prop) (m : Nat) (tb : TS) (r : VK) (n : L2.St → Hp → Prop) (σ : L2.St) (H : Hp) : Prop :=
  ∃ N : L2.St → Hp → Prop, (∀ σ' H', N σ' H' → ∃ m', m' < m ∧ W m' σ' H') ∧ tb ⟨N, r, n, N⟩ σ H
theorem v_while {tc : TT} (Pv : L2.St → Hp → Prop) (μ : L2.St → Hp → Nat) (h0 : Pv σ H)
    (hs : ∀ σ H, Pv σ H → tc σ H fun k H1 => if k = true then WT (fun m σ H => Pv σ H ∧ μ σ H = m) (μ σ H) tb r n σ H1 else n σ H1) : tWhile tc tb ⟨n, r, b, c⟩ σ H :=
  ⟨fun m σ H => Pv σ H ∧ μ σ H = m, ⟨_, h0, rfl⟩, fun m σ H ⟨h, e⟩ => by subst e; exact hs σ H h⟩
theorem v_wt {Pv : L2.St → Hp → Prop} {μ : L2.St → Hp → Nat} {m : Nat} (h : tb ⟨fun σ' H' => Pv σ' H' ∧ μ σ' H' < m, r, n, fun σ' H' => Pv σ' H' ∧ μ σ' H' < m⟩ σ H) : WT (fun m σ H => Pv σ H ∧ μ σ H = m) m tb r n σ H :=
  ⟨_, fun σ' H' hh => ⟨_, hh.2, hh.1, rfl⟩, h⟩
/-! comprehensions -/
def LcQ (J : It) (g : TG) (tt : TT) (te : TE) (vs : List Nat) (σ : L2.St) (H1 : Hp) (Q : VK) : Prop := ∀ D, H1 D = none → ∃ W : Nat → Nat → Hp → Prop, (∃ m, W 0 m (upd H1 D (.lst []))) ∧ ∀ i m H, W i m H →
  (J.stop i H ∧ Q (.ref D) H) ∨ (J.go i H ∧ ∃ Nx : Hp → Prop, (∀ H', Nx H' → ∃ m', m' < m ∧ W (i + 1) m' H') ∧ ∀ x H', J.yld i H x H' → g x (wipe σ vs) H' fun σ2 H2 => wipe σ2 vs = wipe σ vs ∧ tt σ2 H2 fun b H3 =>
    if b = true then te σ2 H3 fun y H4 => ∃ acc, H4 D = some (.lst acc) ∧ acc.length < sizeLine ∧ Nx (upd H4 D (.lst (acc ++ [y]))) else Nx H3)
theorem v_lc {wi : TI} {tt : TT} {vs : List Nat} (h : wi σ H fun J H1 => LcQ J g tt te vs σ H1 Q) : tLc wi g tt te vs σ H Q := h
theorem v_yes {Q : Bool → Hp → Prop} (h : Q true H) : tYes σ H Q := h
/-- an element is put to the list at D -/
def LcA (D : Addr) (Nx : Hp → Prop) (y : V) (H4 : Hp) : Prop := ∃ acc, H4 D = some (.lst acc) ∧ acc.length < sizeLine ∧ Nx (upd H4 D (.lst (acc ++ [y])))
/-- what the turns of a comprehension keep: S, what else they change -/
def LcI (S : List Addr) (H0 : Hp) (D : Addr) (Pv : Nat → List V → Hp → Prop) (i : Nat) (H : Hp) : Prop := ∃ acc, Chg S H0 H ∧ H D = some (.lst acc) ∧ Pv i acc H
theorem v_lcA {S : List Addr} {H0 H1 H4 : Hp} {D : Addr} {Pv : Nat → List V → Hp → Prop} {i : Nat} {acc : List V} {y : V} (c0 : Chg S H0 H1) (hD : H1 D = some (.lst acc)) (nD : H0 D = none) (hS : D ∉ S) (c : Chg S H1 H4) (hl : acc.length < sizeLine)
    (h : ∀ H5, Chg [D] H4 H5 → Pv i (acc ++ [y]) H5) : LcA D (LcI S H0 D Pv i) y H4 := by
  have e := c.keep hD hS
  have c5 : Chg [D] H4 (upd H4 D (.lst (acc ++ [y]))) := Chg.set e (by intro _ z; cases z)
  refine ⟨acc, e, hl, acc ++ [y], (c0.trans c).trans' c5 ?_, upd_same, h _ c5⟩
  intro l hm
  rw [List.mem_singleton] at hm
  subst hm
  exact .inr nD
theorem v_lcN {S : List Addr} {H0 H1 H4 : Hp} {D : Addr} {Pv : Nat → List V → Hp → Prop} {i : Nat} {acc : List V} (c0 : Chg S H0 H1) (hD : H1 D = some (.lst acc)) (hS : D ∉ S) (c : Chg S H1 H4) (h : Pv i acc H4) : LcI S H0 D Pv i H4 :=
  ⟨acc, c0.trans c, c.keep hD hS, h⟩
theorem v_lc_list {a : Addr} {xs : List V} {tt : TT} {vs : List Nat} (S : List Addr) (Pv : Nat → List V → Hp → Prop) (hS : ∀ b ∈ S, H b ≠ none) (hl : ∀ H', Chg S H H' → SqL K H' a xs)
    (h0 : ∀ H', Chg [] H H' → Pv 0 [] H')
    (hs : ∀ D i x acc H1, xs[i]? = some x → H D = none → D ∉ S → Chg S H H1 → H1 D = some (.lst acc) → Pv i acc H1 → g x (wipe σ vs) H1 fun σ2 H2 => wipe σ2 vs = wipe σ vs ∧ tt σ2 H2 fun k H3 =>
      if k = true then te σ2 H3 fun y H4 => LcA D (LcI S H D Pv (i + 1)) y H4 else LcI S H D Pv (i + 1) H3)
    (hd : ∀ D acc H', Chg S H H' → H D = none → H' D = some (.lst acc) → Pv xs.length acc H' → Q (.ref D) H') : LcQ (Itl K a) g tt te vs σ H Q := by
  intro D hD
  have dS : D ∉ S := fun m => hS D m hD
  refine lc_list (xs := xs) (LcI S H D Pv) ⟨[], (Chg.new hD).of0, upd_same, h0 _ (.new hD)⟩ (fun i H1 _ ⟨_, c, _⟩ => hl _ c) (fun i x H1 hx ⟨acc, c, e, p⟩ => hs D i x acc H1 hx hD dS c e p) (fun H1 ⟨acc, c, e, p⟩ => hd D acc H1 c hD e p)
theorem v_lc_tup {a : Addr} {xs : List V} {tt : TT} {vs : List Nat} (S : List Addr) (Pv : Nat → List V → Hp → Prop) (hS : ∀ b ∈ S, H b ≠ none) (hl : ∀ H', Chg S H H' → SqT K H' a xs)
    (h0 : ∀ H', Chg [] H H' → Pv 0 [] H')
    (hs : ∀ D i x acc H1, xs[i]? = some x → H D = none → D ∉ S → Chg S H H1 → H1 D = some (.lst acc) → Pv i acc H1 → g x (wipe σ vs) H1 fun σ2 H2 => wipe σ2 vs = wipe σ vs ∧ tt σ2 H2 fun k H3 =>
      if k = true then te σ2 H3 fun y H4 => LcA D (LcI S H D Pv (i + 1)) y H4 else LcI S H D Pv (i + 1) H3)
    (hd : ∀ D acc H', Chg S H H' → H D = none → H' D = some (.lst acc) → Pv xs.length acc H' → Q (.ref D) H') : LcQ (Itt K a) g tt te vs σ H Q := by
  intro D hD
  have dS : D ∉ S := fun m => hS D m hD
  refine lc_tup (xs := xs) (LcI S H D Pv) ⟨[], (Chg.new hD).of0, upd_same, h0 _ (.new hD)⟩ (fun i H1 _ ⟨_, c, _⟩ => hl _ c) (fun i x H1 hx ⟨acc, c, e, p⟩ => hs D i x acc H1 hx hD dS c e p) (fun H1 ⟨acc, c, e, p⟩ => hd D acc H1 c hD e p)
theorem v_lc_range {lo : Int} {m : Nat} {tt : TT} {vs : List Nat} (S : List Addr) (Pv : Nat → List V → Hp → Prop) (hS : ∀ b ∈ S, H b ≠ none)
    (h0 : ∀ H', Chg [] H H' → Pv 0 [] H')
    (hs : ∀ D i acc H1, i < m → H D = none → D ∉ S → Chg S H H1 → H1 D = some (.lst acc) → Pv i acc H1 → g (.int (lo + i)) (wipe σ vs) H1 fun σ2 H2 => wipe σ2 vs = wipe σ vs ∧ tt σ2 H2 fun k H3 =>
      if k = true then te σ2 H3 fun y H4 => LcA D (LcI S H D Pv (i + 1)) y H4 else LcI S H D Pv (i + 1) H3)
    (hd : ∀ D acc H', Chg S H H' → H D = none → H' D = some (.lst acc) → Pv m acc H' → Q (.ref D) H') : LcQ (Itr lo m) g tt te vs σ H Q := by
  intro D hD
  have dS : D ∉ S := fun m => hS D m hD
  refine lc_range (LcI S H D Pv) ⟨[], (Chg.new hD).of0, upd_same, h0 _ (.new hD)⟩ (fun i H1 hi ⟨acc, c, e, p⟩ => hs D i acc H1 hi hD dS c e p) (fun H1 ⟨acc, c, e, p⟩ => hd D acc H1 c hD e p)
end
end RT

/-! ## 12. enumerate(list, start) -/
namespace PySem.F
open PySem
theorem rt_typeCall_enumerate_2 (a b : Value) : checkTypeCall "enumerate" ⟨[a, b], []⟩ = pure () := by kernel_rfl
theorem rt_newCall_enumerate_2 (a b : Value) : checkBuiltinCall "enumerate.__new__" ⟨[.type "enumerate", a, b], []⟩ = pure () := by kernel_rfl
end PySem.F
namespace PySem
open Sem (wp)
theorem rt_meets_enumerate {v1 : Value} {o1 : Obj} {H1 : Heap → Prop} (B1 : Begins v1 o1 H1) (k : Int) (t : Tok) (hk : Builtin.SmallTypes.fitsIndex k = true) :
    Meets (Builtin.«enumerate.__new__» ⟨[.type "enumerate", v1, .int k t], []⟩) (fun _ R s => H1 s.heap ∧
      R (.ok (.ret (.ref (s.heap.push o1).objs.size)))
        { s with heap := (s.heap.push o1).push { cls := .type "enumerate", data := .fields #[.none, .bool false, .ref s.heap.objs.size, rawInt k, .none, .none] } }) :=
  .of_wp fun prog w A R s h => by
    obtain ⟨hp, g, d, tk, os⟩ := s; obtain ⟨h1, h⟩ := h
    have hsub := sub_enumerate
    have q1 : ∀ {A' : Around} {E : Value → Shared → Prop} {Q : Value → Shared → Prop}, Q (.ref hp.objs.size) ⟨(hp.push o1), g, d, tk, os⟩ → wpAny (model prog w) A' (pyIter v1) Q E ⟨hp, g, d, tk, os⟩ :=
      fun q => B1.iter prog w _ _ ⟨hp, g, d, tk, os⟩ _ (B1.keeps _ _ h1 fun b o' e => e) q
    wp_walk using q1
    refine wpAny_stack_any fun st => wpAny_pure ?_
    split
    · rename_i c _ _ _ _ _
      cases (c == Value.type "enumerate")
      · wp_walk using q1
        try simp only [hk, Bool.not_true, Bool.false_eq_true, if_false]
        try wp_walk using q1
        exact ⟨_, rfl, h⟩
      · wp_walk using q1
        try simp only [hk, Bool.not_true, Bool.false_eq_true, if_false]
        try wp_walk using q1
        exact ⟨_, rfl, h⟩
    · wp_walk using q1
      try simp only [hk, Bool.not_true, Bool.false_eq_true, if_false]
      try wp_walk using q1
      exact ⟨_, rfl, h⟩
section
variable {prog : Program} {w : World} {A : Around} {E : Value → Shared → Prop} {s : Shared}
theorem rt_call_enumerate {v1 : Value} {o1 : Obj} {H1 : Heap → Prop} {k : Int} {t : Tok} {Q : Value → Shared → Prop} (B1 : Begins v1 o1 H1) (hk : Builtin.SmallTypes.fitsIndex k = true) (h1 : H1 s.heap)
    (h : ∀ h', IsEnum h' (s.heap.objs.size + 1) s.heap.objs.size k .none → h'.get? s.heap.objs.size = some o1 → h'.objs.size = s.heap.objs.size + 2 →
      (∀ b o, s.heap.get? b = some o → h'.get? b = some o) → Q (.ref (s.heap.objs.size + 1)) { s with heap := h' }) :
    wpAny (model prog w) A (call (.type "enumerate") [v1, .int k t]) Q E s := by
  refine callType_new F.called_enumerate (by decide) (F.rt_typeCall_enumerate_2 _ _) (F.rt_newCall_enumerate_2 _ _) (fun obj => F.args_object_init_3 obj _ _) F.entry_enumerate_new
    (rt_meets_enumerate B1 k t hk) ⟨h1, ?_⟩
  have hz : (s.heap.push o1).objs.size = s.heap.objs.size + 1 := Heap.size_push ..
  show _ ∧ _
  rw [hz]
  have he : IsEnum ((s.heap.push o1).push { cls := .type "enumerate", data := .fields #[.none, .bool false, .ref s.heap.objs.size, rawInt k, .none, .none] }) (s.heap.objs.size + 1) s.heap.objs.size k .none := by
    have := Heap.get?_push_size (s.heap.push o1)
      (o := { cls := .type "enumerate", data := .fields #[.none, .bool false, .ref s.heap.objs.size, rawInt k, .none, .none] }) rfl
    rw [hz] at this; exact this
  refine ⟨⟨_, he, rfl⟩, h _ he (Heap.get?_push_of_some _ (Heap.get?_push_size _ B1.free)) (by rw [Heap.size_push, hz]) fun b o x => Heap.get?_push_of_some _ (Heap.get?_push_of_some _ x)⟩
end
end PySem
namespace RT
open PySem PySem.Spec PyProof.Rows L2
/-! ### lists and tuples alike (tt: a tuple) -/
def SqB (K : PySem.W.Frag) (H : Hp) (b : Bool) (a : Addr) (xs : List V) : Prop := match b with
  | false => SqL K H a xs
  | true => SqT K H a xs
def ItB (b : Bool) (h : Heap) (it a : Addr) (i : Nat) : Prop := match b with
  | false => h.IsListIter it a i
  | true => h.IsTupleIter it a i
def ObB (b : Bool) (h : Heap) (a : Addr) (its : Array Value) : Prop := match b with
  | false => h.IsList a its
  | true => h.IsTuple a its
def itO (b : Bool) (a : Addr) : Obj := match b with
  | false => { cls := .type "list_iterator", data := .fields #[.ref a, .int 0 0] }
  | true => { cls := .type "tuple_iterator", data := .fields #[.ref a, .int 0 0] }
theorem itO_at {b : Bool} {h : Heap} {it a : Addr} (e : h.get? it = some (itO b a)) : ItB b h it a 0 := by
  cases b
  · exact ⟨_, e, rfl, rfl⟩
  · exact ⟨_, e, rfl, rfl⟩
theorem ItB.obj {b : Bool} {h : Heap} {it a : Addr} {i : Nat} (x : ItB b h it a i) : ∃ o, h.get? it = some o ∧ ∀ v, o.data ≠ .cell v := by
  cases b
  · obtain ⟨o, e, _, d⟩ := x
    exact ⟨o, e, fun v z => by rw [d] at z; cases z⟩
  · obtain ⟨o, e, _, d⟩ := x
    exact ⟨o, e, fun v z => by rw [d] at z; cases z⟩
theorem ItB.at' {b : Bool} {h h' : Heap} {it a : Addr} {i : Nat} (x : ItB b h it a i) (k : ∀ o, h.get? it = some o → h'.get? it = some o) : ItB b h' it a i := by
  cases b
  · exact Heap.IsListIter.at x k
  · exact Heap.IsTupleIter.at x k
theorem ItB.lt {b : Bool} {h : Heap} {it a : Addr} {i : Nat} (x : ItB b h it a i) : it < h.objs.size := by
  obtain ⟨o, e, _⟩ := x.obj
  exact Heap.lt_size e
theorem ObB.lt {b : Bool} {h : Heap} {a : Addr} {its : Array Value} (x : ObB b h a its) : a < h.objs.size := by
  cases b
  · obtain ⟨o, e, _⟩ := x
    exact Heap.lt_size e
  · obtain ⟨o, e, _⟩ := x
    exact Heap.lt_size e
theorem begB (b : Bool) (a : Addr) (its : Array Value) : Begins (.ref a) (itO b a) (fun h => ObB b h a its) := by
  cases b
  · exact begins_list a its
  · exact begins_tuple a its
theorem drawB {prog : Program} {w : World} {A : Around} (hh : A.handled = none) (b : Bool) (it a : Addr) (hne : a ≠ it) (its : Array Value) :
    Draws prog w A it [it, a] its.size (fun i v => its[i]? = some v) (fun i h => ItB b h it a i ∧ ObB b h a its) := by
  cases b
  · exact Draws.list hh it a hne its
  · exact Draws.tuple hh it a hne its
theorem SqB.inv {X : Cx} {pins : List (Addr × Obj)} {σ : L2.St} {H : Hp} {s : Shared} {b : Bool} {a : Addr} {xs : List V} (I : L2.Inv X pins σ H s) (h : SqB X.K H b a xs) : ∃ its : List Value, Vals xs its ∧ ObB b s.heap a its.toArray := by
  cases b
  · obtain ⟨its, rv, p, _⟩ := I.list h
    exact ⟨its, rv, p.isList⟩
  · obtain ⟨its, rv, p, _⟩ := I.tuple h
    exact ⟨its, rv, p⟩
theorem SqB.inj {X : Cx} {pins : List (Addr × Obj)} {σ : L2.St} {H : Hp} {s : Shared} {b : Bool} {a : Addr} {xs ys : List V} (I : L2.Inv X pins σ H s) (h : SqB X.K H b a xs) (h' : SqB X.K H b a ys) : xs = ys := by
  cases b
  · exact I.list_inj h h'
  · exact I.tuple_inj h h'
theorem Itn.eq {α : Type} {l : List α} {i : Nat} (h : ¬ i < l.length) : l[i]? = none := by simpa using h
/-! ### enumerate(x, k) -/
def IteS (K : PySem.W.Frag) (b : Bool) (a : Addr) (k : Int) : It :=
  ⟨fun i H => ∃ (xs : List V) (x : V), SqB K H b a xs ∧ xs[i]? = some x, fun i H v H' => ∃ T x, v = .ref T ∧ H T = none ∧ H' = upd H T (.tup [.int (k + (i : Nat)), x]) ∧ ∀ xs, SqB K H b a xs → xs[i]? = some x, fun i H => ∃ xs : List V, SqB K H b a xs ∧ xs.length = i⟩
theorem turn_enumS {P : Program} {w : World} {K : PySem.W.Frag} {elts : List Expr} {kk : Nat} {tpos : Pos} (b : Bool) (a e it : Addr) (k0 : Int) (hae : a ≠ e) (hai : a ≠ it) (hei : e ≠ it) :
    Turn P w K (.Tuple elts kk tpos) (IteS K b a k0) [e, it] e (fun i h => (∃ old, IsEnum h e it (k0 + ((i : Nat) : Int)) old) ∧ ItB b h it a i) where
  mem := by simp
  obj := fun i h st c hc => by
    obtain ⟨⟨old, he⟩, hit⟩ := st
    have e' : c = e ∨ c = it := by simpa using hc
    rcases e' with z | z
    · rw [z]; exact ⟨_, he, fun v q => nomatch q⟩
    · rw [z]; exact hit.obj
  keep := fun i h h' st k => let ⟨⟨old, he⟩, hi⟩ := st; ⟨⟨old, k e (by simp) _ he⟩, hi.at' fun o q => k it (by simp) o q⟩
  item := by
    intro X hP hw hK hc i pins s σ H E I hf st hg
    subst hP hw hK
    obtain ⟨⟨old, he⟩, hit⟩ := st
    obtain ⟨xs, x, hq, hx⟩ := hg
    obtain ⟨its, rv, p⟩ := hq.inv I
    obtain ⟨u, hu, ru⟩ := rv.get hx
    have hi : i < its.toArray.size := by
      have := (List.getElem?_eq_some_iff.mp hu).1
      simpa using this
    have hel : e < s.heap.objs.size := Heap.lt_size he
    have hil := hit.lt
    refine wpAny_pyNext_enum_itemC (drawB (A := X.A.in1) (show X.A.in1.handled = none from I.ok.hd hc) b it a hai its.toArray) he ⟨hit, p⟩ hi hei (by simp [hei, Ne.symm hae]) fun u' h' tk hu' ho st' hT hsz hk => ?_
    have eu : u' = u := by
      have : its[i]? = some u' := by simpa using hu'
      rw [hu] at this
      exact (Option.some.inj this).symm
    subst eu
    refine ⟨_, rfl, wpAny_letOwnedTupleGo_enum (s := { s with heap := h', toks := tk + 1 }) ho fun h'' he' sb => ?_⟩
    have hT2 : h''.get? s.heap.objs.size = some { cls := .type "tuple", data := .seq #[.int (k0 + i) tk, u'] } := (sb.2 _ (Nat.ne_of_gt hel)).trans hT
    have new : ObjOk X.prog X.w (upd H s.heap.objs.size (.tup [.int (k0 + (i : Nat)), x])) h'' s.heap.objs.size (.tup [.int (k0 + (i : Nat)), x]) :=
      ⟨by show 2 ≤ sizeLine; decide, [.int (k0 + i) tk, u'], .cons ⟨_, rfl⟩ (.cons ru .nil), ⟨_, hT2, rfl, _, rfl⟩⟩
    have I1 : L2.Inv X pins σ (upd H s.heap.objs.size (.tup [.int (k0 + (i : Nat)), x])) { s with heap := h'', toks := tk + 1 } :=
      I.turnedNew (ch := [e, it]) (fun c ob hb q => (sb.2 c (fun z => hb (by simp [z]))).trans (hk c ob (fun z => hb (by simp [z])) (fun z => hb (by simp [z])) q)) hf (Nat.le_refl _) new
    refine ⟨.ref s.heap.objs.size, _, I1, rfl, ⟨_, x, rfl, I.hok.fresh (Nat.le_refl _), rfl, fun ys hy => by rw [hy.inj I hq]; exact hx⟩, ⟨⟨u', ?_⟩, st'.1.at' fun o q => (sb.2 it (Ne.symm hei)).trans q⟩, fun c hb => ?_⟩
    · have e1 : k0 + ((i + 1 : Nat) : Int) = k0 + (i : Int) + 1 := by omega
      rw [e1]; exact he'
    · have hb' : c < s.heap.objs.size := by
        have e' : c = e ∨ c = it := by simpa using hb
        rcases e' with z | z
        · rw [z]; exact hel
        · rw [z]; exact hil
      rw [upd_ne (Nat.ne_of_lt hb')]
      exact (hf c hb).1
  done := by
    intro X hP hw hK hc i pins s σ H E I hf st hg
    subst hP hw hK
    obtain ⟨⟨old, he⟩, hit⟩ := st
    obtain ⟨xs, hq, hx⟩ := hg
    obtain ⟨its, rv, p⟩ := hq.inv I
    obtain ⟨f0, f1, f2, f3, f4, f5⟩ := hf it (by simp)
    have hl := rv.length
    have hi : its.toArray.size = i := by simp; omega
    refine wpAny_pyNext_enum_endD (drawB (A := X.A.in1) (show X.A.in1.handled = none from I.ok.hd hc) b it a hai its.toArray) he (by rw [hi]; exact ⟨hit, p⟩) fun h' eb => ⟨rfl, I.turned (t' := s.toks) (fun c o hb q => eb c o hb q) f0 f1 f3 f4 f5⟩
  self := fun A i s Q E st h => let ⟨⟨_, he⟩, _⟩ := st; wpAny_pyIter_enum he h
def EnumS (K : PySem.W.Frag) (vs : List V) (H : Hp) (R : It → Hp → Prop) : Prop := ∃ (b : Bool) (a : Addr) (k : Int), vs = [.ref a, .int k] ∧ (-(2 ^ 62) ≤ k ∧ k < 2 ^ 62) ∧ (∃ xs, SqB K H b a xs) ∧ R (IteS K b a k) H
def iEnumS (K : PySem.W.Frag) (ta : TA) : TI := fun σ H R => ta σ H fun vs H1 => EnumS K vs H1 R
theorem pi_enumS {X : Cx} {K : PySem.W.Frag} {e e2 : Expr} {ta : TA} {p pos tpos : Pos} {elts : List Expr} {kk : Nat} (hg : Gl X "enumerate") (hm : X.mg "enumerate" = none) (ha : PA X [e, e2] ta)
    (hs : starEach [e, e2] X.env = (false, eval e X.env) :: starEach [e2] X.env := by rfl) (hpl : (backTo pos (starEach [e2] X.env)).any (·.1) = false := by rfl) (hK : X.K = K := by rfl) :
    PI X (.Tuple elts kk tpos) (.Call (.Name "enumerate" p) [e, e2] [] pos) (iEnumS K ta) := by
  subst hK
  refine ⟨fun pins s σ H R I h => ?_⟩
  refine Call_ (ld_blt I hg hm boot_enumerate (PyProof.Rows.callWith_type1 (thn (ha.run pos pins s σ H _ I h) fun us s1 ⟨vs, H1, I1, r1, q1⟩ => ?_) hs hpl))
  obtain ⟨b, a, k, ex, ⟨k0, k1⟩, ⟨xs, hq⟩, q⟩ := q1
  subst ex
  obtain ⟨u1, u2, rfl, r1, r2⟩ := Vals.two r1
  obtain rfl : u1 = Value.ref a := r1
  obtain ⟨t, rfl⟩ := r2
  obtain ⟨its, rv, p'⟩ := hq.inv I1
  have hk : Builtin.SmallTypes.fitsIndex k = true := by
    unfold Builtin.SmallTypes.fitsIndex
    simp only [Bool.and_eq_true, decide_eq_true_eq]
    omega
  have la := p'.lt
  refine rt_call_enumerate (begB b a its.toArray) hk p' fun h' he hit hsz hk => wpAny_pyIter_enum he ?_
  have I2 : L2.Inv X pins σ H1 { s1 with heap := h' } := I1.kept (t' := s1.toks) hk
  refine ⟨s1.heap.objs.size + 1, [s1.heap.objs.size + 1, s1.heap.objs.size], _, _, H1, rfl, I2, turn_enumS b a (s1.heap.objs.size + 1) s1.heap.objs.size k (by show (a : Nat) ≠ _; have := la; exact Nat.ne_of_lt (Nat.lt_succ_of_lt la)) (Nat.ne_of_lt la) (Nat.succ_ne_self _), ⟨⟨.none, ?_⟩, itO_at hit⟩, fun c hb => ?_, q⟩
  · rw [show k + ((0 : Nat) : Int) = k by omega]; exact he
  have e' : c = s1.heap.objs.size + 1 ∨ c = s1.heap.objs.size := by simpa using hb
  have hle : s1.heap.objs.size ≤ c := by
    rcases e' with z | z
    · rw [z]; exact Nat.le_add_right _ _
    · rw [z]; exact Nat.le_refl _
  exact I1.fpOk hle (I1.hok.fresh hle)
theorem v_enumS {K : PySem.W.Frag} {ta : TA} {σ : L2.St} {H : Hp} {R : It → Hp → Prop} (h : ta σ H fun vs H1 => EnumS K vs H1 R) : iEnumS K ta σ H R := h
theorem v_enumS_l {K : PySem.W.Frag} {H : Hp} {R : It → Hp → Prop} {a : Addr} {k : Int} {xs : List V} (hl : SqL K H a xs) (h0 : -(2 ^ 62) ≤ k) (h1 : k < 2 ^ 62) (h : R (IteS K false a k) H) : EnumS K [.ref a, .int k] H R := ⟨false, a, k, rfl, ⟨h0, h1⟩, ⟨xs, hl⟩, h⟩
theorem v_enumS_t {K : PySem.W.Frag} {H : Hp} {R : It → Hp → Prop} {a : Addr} {k : Int} {xs : List V} (hl : SqT K H a xs) (h0 : -(2 ^ 62) ≤ k) (h1 : k < 2 ^ 62) (h : R (IteS K true a k) H) : EnumS K [.ref a, .int k] H R := ⟨true, a, k, rfl, ⟨h0, h1⟩, ⟨xs, hl⟩, h⟩
section
variable {g : TG} {tb : TS} {n : L2.St → Hp → Prop} {r : VK} {b c : L2.St → Hp → Prop} {σ : L2.St} {H : Hp} {K : PySem.W.Frag}
theorem v_for_enumS {tt : Bool} {a : Addr} {k : Int} {xs : List V} (Pv : Nat → L2.St → Hp → Prop) (h0 : Pv 0 σ H) (hl : ∀ i σ H, i ≤ xs.length → Pv i σ H → SqB K H tt a xs)
    (hs : ∀ i x σ H t H', xs[i]? = some x → Pv i σ H → H t = none → Chg [] H H' → H' t = some (.tup [.int (k + (i : Nat)), x]) → g (.ref t) σ H' fun σ2 H2 => tb ⟨Pv (i + 1), r, n, Pv (i + 1)⟩ σ2 H2)
    (hd : ∀ σ H, Pv xs.length σ H → n σ H) : ForQ (IteS K tt a k) g tb ⟨n, r, b, c⟩ σ H := by
  refine ⟨fun i m σ H => Pv i σ H ∧ i + m = xs.length, ⟨xs.length, h0, by omega⟩, ?_⟩
  rintro i m σ H ⟨hp, hm⟩
  have hq := hl i σ H (by omega) hp
  by_cases hi : i < xs.length
  · refine .inr ⟨⟨xs, xs[i], hq, List.getElem?_eq_getElem hi⟩, Pv (i + 1), fun σ' H' h => ⟨m - 1, by omega, h, by omega⟩, ?_⟩
    rintro v H' ⟨T, x, rfl, hT, rfl, hx⟩
    exact hs i x σ H T _ (hx xs hq) hp hT (.new hT) upd_same
  · have e : i = xs.length := by omega
    subst e
    exact .inl ⟨⟨xs, hq, rfl⟩, hd σ H hp⟩
end
/-! ### zip(x, y) -/
def ItzB (K : PySem.W.Frag) (b1 b2 : Bool) (a1 a2 : Addr) : It :=
  ⟨fun i H => ∃ (xs ys : List V) (x y : V), SqB K H b1 a1 xs ∧ SqB K H b2 a2 ys ∧ xs[i]? = some x ∧ ys[i]? = some y,
    fun i H v H' => ∃ T x y, v = .ref T ∧ H T = none ∧ H' = upd H T (.tup [x, y]) ∧ (∀ xs, SqB K H b1 a1 xs → xs[i]? = some x) ∧ ∀ ys, SqB K H b2 a2 ys → ys[i]? = some y,
    fun i H => ∃ xs ys : List V, SqB K H b1 a1 xs ∧ SqB K H b2 a2 ys ∧ i ≤ xs.length ∧ i ≤ ys.length ∧ (i = xs.length ∨ i = ys.length)⟩
theorem sep2_of {z TI TO i1 i2 a b : Addr} (D : ZipApart z TI TO i1 i2 a b) : ZipSep2 z TI TO i1 i2 [i1, a] [i2, b] := by
  obtain ⟨⟩ := D
  constructor <;> (try simp only [List.mem_cons, List.not_mem_nil, or_false, not_or]) <;> (try constructor) <;> first | assumption | (apply Ne.symm; assumption) | simp
theorem turn_zipB {P : Program} {w : World} {K : PySem.W.Frag} {elts : List Expr} {kk : Nat} {tpos : Pos} {b1 b2 : Bool} {a b z TI TO i1 i2 : Addr} (D : ZipApart z TI TO i1 i2 a b) :
    Turn P w K (.Tuple elts kk tpos) (ItzB K b1 b2 a b) [z, TI, TO, i1, i2] z (fun i h => IsZip h z TI TO .none ∧ IsTupOf2 h TI (.ref i1) (.ref i2) ∧ (∃ x y, IsTupOf2 h TO x y) ∧ ItB b1 h i1 a i ∧ ItB b2 h i2 b i) where
  mem := by simp
  obj := fun i h st c hc => by
    obtain ⟨hz, hTI, ⟨x, y, hTO⟩, h1, h2⟩ := st
    have e' : c = z ∨ c = TI ∨ c = TO ∨ c = i1 ∨ c = i2 := by simpa using hc
    rcases e' with q | q | q | q | q
    · rw [q]; exact ⟨_, hz, fun v q => nomatch q⟩
    · rw [q]; exact ⟨_, hTI, fun v q => nomatch q⟩
    · rw [q]; exact ⟨_, hTO, fun v q => nomatch q⟩
    · rw [q]; exact h1.obj
    · rw [q]; exact h2.obj
  keep := fun i h h' st k => by
    obtain ⟨hz, hTI, ⟨x, y, hTO⟩, h1, h2⟩ := st
    exact ⟨k z (by simp) _ hz, k TI (by simp) _ hTI, ⟨x, y, k TO (by simp) _ hTO⟩, h1.at' fun o q => k i1 (by simp) o q, h2.at' fun o q => k i2 (by simp) o q⟩
  item := by
    intro X hP hw hK hc i pins s σ H E I hf st hg
    subst hP hw hK
    obtain ⟨hz, hTI, ⟨x0, y0, hTO⟩, h1, h2⟩ := st
    obtain ⟨xs, ys, x, y, hqx, hqy, hx, hy⟩ := hg
    obtain ⟨its, rv, p⟩ := hqx.inv I
    obtain ⟨its2, rv2, p2⟩ := hqy.inv I
    obtain ⟨u, hu, ru⟩ := rv.get hx
    obtain ⟨u2, hu2, ru2⟩ := rv2.get hy
    have hzl : z < s.heap.objs.size := Heap.lt_size hz
    have hi1 : i < its.toArray.size := by have := (List.getElem?_eq_some_iff.mp hu).1; simpa using this
    have hi2 : i < its2.toArray.size := by have := (List.getElem?_eq_some_iff.mp hu2).1; simpa using this
    have la := p.lt
    have lb := p2.lt
    refine wpAny_pyNext_zipD2_item (sep2_of D) (drawB (A := X.A.in1) (show X.A.in1.handled = none from I.ok.hd hc) b1 i1 a D.l1i1 its.toArray) (drawB (A := X.A.in1) (show X.A.in1.handled = none from I.ok.hd hc) b2 i2 b D.l2i2 its2.toArray) hz hTI hTO ⟨h1, p⟩ ⟨h2, p2⟩ hi1 hi2 fun u' u2' h' tk hu' hu2' z' TO' st1 st2 hT hsz hk => ?_
    have eu : u' = u := by
      have : its[i]? = some u' := by simpa using hu'
      rw [hu] at this
      exact (Option.some.inj this).symm
    have eu2 : u2' = u2 := by
      have : its2[i]? = some u2' := by simpa using hu2'
      rw [hu2] at this
      exact (Option.some.inj this).symm
    subst eu eu2
    refine ⟨_, rfl, wpAny_letOwnedTupleGo_zip (s := { s with heap := h', toks := tk }) z' fun h'' z'' sb => ?_⟩
    have hT2 : h''.get? s.heap.objs.size = some { cls := .type "tuple", data := .seq #[u', u2'] } := (sb.2 _ (Nat.ne_of_gt hzl)).trans hT
    have new : ObjOk X.prog X.w (upd H s.heap.objs.size (.tup [x, y])) h'' s.heap.objs.size (.tup [x, y]) :=
      ⟨by show 2 ≤ sizeLine; decide, [u', u2'], .cons ru (.cons ru2 .nil), ⟨_, hT2, rfl, _, rfl⟩⟩
    have I1 : L2.Inv X pins σ (upd H s.heap.objs.size (.tup [x, y])) { s with heap := h'', toks := tk } :=
      I.turnedNew (t' := tk) (ch := [z, TI, TO, i1, i2]) (fun c o hb q => (sb.2 c (fun q' => hb (by simp [q']))).trans (hk c o (fun q' => hb (by simp [q'])) (fun q' => hb (by simp [q'])) (fun q' => hb (by simp [q'])) (fun q' => hb (by simp [q'])) q)) hf (Nat.le_refl _) new
    refine ⟨.ref s.heap.objs.size, _, I1, rfl, ⟨_, x, y, rfl, I.hok.fresh (Nat.le_refl _), rfl, fun l hl => by rw [hl.inj I hqx]; exact hx, fun l hl => by rw [hl.inj I hqy]; exact hy⟩, ⟨z'', ?_, ⟨u', u2', ?_⟩, ?_, ?_⟩, fun c hcm => ?_⟩
    · exact (sb.2 _ D.TIz).trans (hk _ _ D.TIz D.TITO D.TIi1 D.TIi2 hTI)
    · exact (sb.2 _ D.TOz).trans TO'
    · exact st1.1.at' fun o q => (sb.2 _ D.i1z).trans q
    · exact st2.1.at' fun o q => (sb.2 _ D.i2z).trans q
    · have hlt : c < s.heap.objs.size := by
        have e' : c = z ∨ c = TI ∨ c = TO ∨ c = i1 ∨ c = i2 := by simpa using hcm
        rcases e' with q | q | q | q | q
        · rw [q]; exact hzl
        · rw [q]; exact Heap.lt_size hTI
        · rw [q]; exact Heap.lt_size hTO
        · rw [q]; exact h1.lt
        · rw [q]; exact h2.lt
      rw [upd_ne (Nat.ne_of_lt hlt)]
      exact (hf c hcm).1
  done := by
    intro X hP hw hK hc i pins s σ H E I hf st hg
    subst hP hw hK
    obtain ⟨hz, hTI, ⟨x0, y0, hTO⟩, h1, h2⟩ := st
    obtain ⟨xs, ys, hqx, hqy, l1, l2, hend⟩ := hg
    obtain ⟨its, rv, p⟩ := hqx.inv I
    obtain ⟨its2, rv2, p2⟩ := hqy.inv I
    have e1 := rv.length
    have e2 := rv2.length
    exact wpAny_pyNext_zipD2_end (sep2_of D) (drawB (A := X.A.in1) (show X.A.in1.handled = none from I.ok.hd hc) b1 i1 a D.l1i1 its.toArray) (drawB (A := X.A.in1) (show X.A.in1.handled = none from I.ok.hd hc) b2 i2 b D.l2i2 its2.toArray) hz hTI hTO ⟨h1, p⟩ ⟨h2, p2⟩ (by simp; omega) (by simp; omega) (by simp; omega)
      fun h' tk hk => ⟨rfl, I.turnedL (t' := tk) (ch := [z, TI, TO, i1, i2]) (fun c o hb q => hk c o (fun q' => hb (by simp [q'])) (fun q' => hb (by simp [q'])) (fun q' => hb (by simp [q'])) (fun q' => hb (by simp [q'])) q) hf⟩
  self := fun A i s Q E st h => wpAny_pyIter_zip st.1 h
def ZipB (K : PySem.W.Frag) (vs : List V) (H : Hp) (R : It → Hp → Prop) : Prop := ∃ (b1 b2 : Bool) (a b : Addr), vs = [.ref a, .ref b] ∧ (∃ xs, SqB K H b1 a xs) ∧ (∃ ys, SqB K H b2 b ys) ∧ R (ItzB K b1 b2 a b) H
def iZipB (K : PySem.W.Frag) (ta : TA) : TI := fun σ H R => ta σ H fun vs H1 => ZipB K vs H1 R
theorem pi_zipB {X : Cx} {K : PySem.W.Frag} {e e2 : Expr} {ta : TA} {p pos tpos : Pos} {elts : List Expr} {kk : Nat} (hg : Gl X "zip") (hm : X.mg "zip" = none) (ha : PA X [e, e2] ta)
    (hs : starEach [e, e2] X.env = (false, eval e X.env) :: starEach [e2] X.env := by rfl) (hpl : (backTo pos (starEach [e2] X.env)).any (·.1) = false := by rfl) (hK : X.K = K := by rfl) :
    PI X (.Tuple elts kk tpos) (.Call (.Name "zip" p) [e, e2] [] pos) (iZipB K ta) := by
  subst hK
  refine ⟨fun pins s σ H R I h => ?_⟩
  refine Call_ (ld_blt I hg hm PyProof.Rows.boot_zip (PyProof.Rows.callWith_type1 (thn (ha.run pos pins s σ H _ I h) fun us s1 ⟨vs, H1, I1, r1, q1⟩ => ?_) hs hpl))
  obtain ⟨b1, b2, a, b, ex, ⟨xs, hqx⟩, ⟨ys, hqy⟩, q⟩ := q1
  subst ex
  obtain ⟨u1, u2, rfl, r1, r2⟩ := Vals.two r1
  obtain rfl : u1 = Value.ref a := r1
  obtain rfl : u2 = Value.ref b := r2
  obtain ⟨its, rv, p1⟩ := hqx.inv I1
  obtain ⟨its2, rv2, p2⟩ := hqy.inv I1
  have la := p1.lt
  have lb := p2.lt
  refine zip_begins2 (begB b1 a its.toArray) (begB b2 b its2.toArray) p1 p2 fun h' hz hTI hTO h1 h2 hsz hk => wpAny_pyIter_zip hz ?_
  have I2 : L2.Inv X pins σ H1 { s1 with heap := h' } := I1.kept (t' := s1.toks) hk
  refine ⟨s1.heap.objs.size + 4, [s1.heap.objs.size + 4, s1.heap.objs.size + 2, s1.heap.objs.size + 3, s1.heap.objs.size, s1.heap.objs.size + 1], _, _, H1, rfl, I2, turn_zipB (PySem.W.ktu_apart s1.heap.objs.size a b la lb), ⟨hz, hTI, ⟨_, _, hTO⟩, itO_at h1, itO_at h2⟩, fun c hcm => ?_, q⟩
  have e' : c = s1.heap.objs.size + 4 ∨ c = s1.heap.objs.size + 2 ∨ c = s1.heap.objs.size + 3 ∨ c = s1.heap.objs.size ∨ c = s1.heap.objs.size + 1 := by simpa using hcm
  have hle : s1.heap.objs.size ≤ c := by
    rcases e' with z | z | z | z | z
    · rw [z]; exact Nat.le_add_right _ _
    · rw [z]; exact Nat.le_add_right _ _
    · rw [z]; exact Nat.le_add_right _ _
    · rw [z]; exact Nat.le_refl _
    · rw [z]; exact Nat.le_add_right _ _
  exact I1.fpOk hle (I1.hok.fresh hle)
theorem v_zipB {K : PySem.W.Frag} {ta : TA} {σ : L2.St} {H : Hp} {R : It → Hp → Prop} (h : ta σ H fun vs H1 => ZipB K vs H1 R) : iZipB K ta σ H R := h
theorem v_zip_ll {K : PySem.W.Frag} {H : Hp} {R : It → Hp → Prop} {a b : Addr} {xs ys : List V} (h1 : SqL K H a xs) (h2 : SqL K H b ys) (h : R (ItzB K false false a b) H) : ZipB K [.ref a, .ref b] H R := ⟨false, false, a, b, rfl, ⟨xs, h1⟩, ⟨ys, h2⟩, h⟩
theorem v_zip_tt {K : PySem.W.Frag} {H : Hp} {R : It → Hp → Prop} {a b : Addr} {xs ys : List V} (h1 : SqT K H a xs) (h2 : SqT K H b ys) (h : R (ItzB K true true a b) H) : ZipB K [.ref a, .ref b] H R := ⟨true, true, a, b, rfl, ⟨xs, h1⟩, ⟨ys, h2⟩, h⟩
theorem v_zip_lt {K : PySem.W.Frag} {H : Hp} {R : It → Hp → Prop} {a b : Addr} {xs ys : List V} (h1 : SqL K H a xs) (h2 : SqT K H b ys) (h : R (ItzB K false true a b) H) : ZipB K [.ref a, .ref b] H R := ⟨false, true, a, b, rfl, ⟨xs, h1⟩, ⟨ys, h2⟩, h⟩
section
variable {g : TG} {tb : TS} {n : L2.St → Hp → Prop} {r : VK} {b c : L2.St → Hp → Prop} {σ : L2.St} {H : Hp} {K : PySem.W.Frag}
theorem v_for_zipB {b1 b2 : Bool} {a1 a2 : Addr} {xs ys : List V} (Pv : Nat → L2.St → Hp → Prop) (h0 : Pv 0 σ H) (hl : ∀ i σ H, Pv i σ H → SqB K H b1 a1 xs ∧ SqB K H b2 a2 ys)
    (hs : ∀ i x y σ H t H', xs[i]? = some x → ys[i]? = some y → Pv i σ H → H t = none → Chg [] H H' → H' t = some (.tup [x, y]) → g (.ref t) σ H' fun σ2 H2 => tb ⟨Pv (i + 1), r, n, Pv (i + 1)⟩ σ2 H2)
    (hd : ∀ σ H, Pv (min xs.length ys.length) σ H → n σ H) : ForQ (ItzB K b1 b2 a1 a2) g tb ⟨n, r, b, c⟩ σ H := by
  refine ⟨fun i m σ H => Pv i σ H ∧ i + m = min xs.length ys.length, ⟨_, h0, Nat.zero_add _⟩, ?_⟩
  rintro i m σ H ⟨hp, hm⟩
  obtain ⟨hq1, hq2⟩ := hl i σ H hp
  by_cases hi : i < min xs.length ys.length
  · refine .inr ⟨⟨xs, ys, xs[i]'(by omega), ys[i]'(by omega), hq1, hq2, List.getElem?_eq_getElem (by omega), List.getElem?_eq_getElem (by omega)⟩, Pv (i + 1), fun σ' H' h => ⟨m - 1, by omega, h, by omega⟩, ?_⟩
    rintro v H' ⟨T, x, y, rfl, hT, rfl, hx, hy⟩
    exact hs i x y σ H T _ (hx xs hq1) (hy ys hq2) hp hT (.new hT) upd_same
  · have e : i = min xs.length ys.length := by omega
    exact .inl ⟨⟨xs, ys, hq1, hq2, by omega, by omega, by omega⟩, by subst e; exact hd σ H hp⟩
end
end RT

namespace RT
open PySem PySem.Spec PyProof.Rows L2
/-! ## 14. texts -/
theorem ofString_inj {a b : String} : (Str.ofString a = Str.ofString b) = (a = b) := by
  apply propext
  constructor
  · intro h
    have h1 : (cpsOfBytes 0 0 a.toByteArray.data.toList).toArray = (cpsOfBytes 0 0 b.toByteArray.data.toList).toArray := congrArg Str.cps h
    have h2 := congrArg Array.toList h1
    rw [cpsOfBytes_string, cpsOfBytes_string] at h2
    have h3 : a.toList = b.toList := (List.map_inj_right (fun x y e => Char.toNat_inj.mp e)).mp h2
    exact String.toList_inj.mp h3
  · rintro rfl; rfl
theorem ofString_cps (a : String) : (Str.ofString a).cps.toList = a.toList.map Char.toNat := by
  show (cpsOfBytes 0 0 a.toByteArray.data.toList).toArray.toList = _
  rw [← cpsOfBytes_string]
/-! ## 15. data: tuples of what never changes -/
inductive D where
  | non
  | bl (b : Bool)
  | int (i : Int)
  | str (s : Str)
  | tup (xs : List D)
mutual
def D.py : D → PyData
  | .non => .none
  | .bl b => .bool b
  | .int i => .int i
  | .str s => .str s
  | .tup xs => .tuple (D.pys xs)
def D.pys : List D → List PyData
  | [] => []
  | x :: xs => x.py :: D.pys xs
end
theorem D.pys_eq : ∀ xs : List D, D.pys xs = xs.map D.py
  | [] => rfl
  | x :: xs => by rw [D.pys, D.pys_eq xs]; rfl
mutual
def D.dep : D → Nat
  | .tup xs => D.deps xs + 1
  | _ => 0
def D.deps : List D → Nat
  | [] => 0
  | x :: xs => max x.dep (D.deps xs)
end
mutual
theorem D.depth_py : ∀ d : D, PyData.depth d.py = d.dep
  | .non => rfl
  | .bl _ => rfl
  | .int _ => rfl
  | .str _ => rfl
  | .tup xs => by rw [D.py, PyData.depth, D.dep, D.depth_pys xs]
theorem D.depth_pys : ∀ xs : List D, PyData.depthAll (D.pys xs) = D.deps xs
  | [] => rfl
  | x :: xs => by rw [D.pys, PyData.depthAll, D.deps, D.depth_py x, D.depth_pys xs]
end
theorem D.deps_le {xs : List D} {n : Nat} (h : ∀ x ∈ xs, x.dep ≤ n) : D.deps xs ≤ n := by
  induction xs with
  | nil => exact Nat.zero_le _
  | cons x xs ih =>
    rw [D.deps]
    have h1 := h x List.mem_cons_self
    have h2 := ih fun y hy => h y (List.mem_cons_of_mem _ hy)
    omega
theorem D.dep_mem {xs : List D} {x : D} (h : x ∈ xs) : x.dep ≤ D.deps xs := by
  induction xs with
  | nil => cases h
  | cons y xs ih =>
    rw [D.deps]
    rcases List.mem_cons.mp h with rfl | h
    · omega
    · have := ih h; omega
/-! v stands for d -/
mutual
inductive Rp (H : Hp) : V → D → Prop
  | non : Rp H .non .non
  | bl (b : Bool) : Rp H (.bl b) (.bl b)
  | int (i : Int) : Rp H (.int i) (.int i)
  | str {s : Str} (h : PyData.strOk s = true) : Rp H (.str s) (.str s)
  | tup {a : Addr} {xs : List V} {ds : List D} : H a = some (.tup xs) → RpA H xs ds → Rp H (.ref a) (.tup ds)
inductive RpA (H : Hp) : List V → List D → Prop
  | nil : RpA H [] []
  | cons {x : V} {xs : List V} {d : D} {ds : List D} : Rp H x d → RpA H xs ds → RpA H (x :: xs) (d :: ds)
end
mutual
theorem Rp.chg {S : List Addr} {H H' : Hp} (c : Chg S H H') : ∀ (d : D) (v : V), Rp H v d → Rp H' v d
  | .non, _, h => by cases h; exact .non
  | .bl b, _, h => by cases h; exact .bl b
  | .int i, _, h => by cases h; exact .int i
  | .str s, _, h => by cases h with | str h => exact .str h
  | .tup ds, _, h => by cases h with | tup e r => exact .tup (c.tup e) (RpA.chg c ds _ r)
theorem RpA.chg {S : List Addr} {H H' : Hp} (c : Chg S H H') : ∀ (ds : List D) (xs : List V), RpA H xs ds → RpA H' xs ds
  | [], _, h => by cases h; exact .nil
  | d :: ds, _, h => by cases h with | cons r t => exact .cons (Rp.chg c d _ r) (RpA.chg c ds _ t)
end
theorem Rp.on {S : List Addr} {H H' : Hp} {v : V} {d : D} (h : Rp H v d) (c : Chg S H H') : Rp H' v d := Rp.chg c d v h
theorem RpA.on {S : List Addr} {H H' : Hp} {xs : List V} {ds : List D} (h : RpA H xs ds) (c : Chg S H H') : RpA H' xs ds := RpA.chg c ds xs h
mutual
theorem Rp.dp {K : PySem.W.Frag} {H : Hp} : ∀ (d : D) (v : V), Rp H v d → L2.Dp K H v d.py
  | .non, _, h => by cases h; exact .non
  | .bl b, _, h => by cases h; exact .bl b
  | .int i, _, h => by cases h; exact .int i
  | .str s, _, h => by cases h with | str h => exact .str s
  | .tup ds, _, h => by cases h with | tup e r => rw [D.py]; exact .tup (SqT.of e) (RpA.dp ds _ r)
theorem RpA.dp {K : PySem.W.Frag} {H : Hp} : ∀ (ds : List D) (xs : List V), RpA H xs ds → L2.DpAll K H xs (D.pys ds)
  | [], _, h => by cases h; exact .nil
  | d :: ds, _, h => by cases h with | cons r t => exact .cons (Rp.dp d _ r) (RpA.dp ds _ t)
end
mutual
theorem Rp.lay {H : Hp} : ∀ (d : D) (v : V), Rp H v d → PyData.canLay0 d.py = true
  | .non, _, h => rfl
  | .bl b, _, h => rfl
  | .int i, _, h => rfl
  | .str s, _, h => by cases h with | str h => exact h
  | .tup ds, _, h => by cases h with | tup e r => rw [D.py, PyData.canLay0]; exact RpA.lay ds _ r
theorem RpA.lay {H : Hp} : ∀ (ds : List D) (xs : List V), RpA H xs ds → PyData.canLayAll0 (D.pys ds) = true
  | [], _, h => rfl
  | d :: ds, _, h => by cases h with | cons r t => rw [D.pys, PyData.canLayAll0, Rp.lay d _ r, RpA.lay ds _ t]; rfl
end
theorem Rp.shaped {H : Hp} {v : V} {d : D} (h : Rp H v d) (hd : d.dep ≤ 64) : SeqAt.shaped d.py = true := by
  unfold SeqAt.shaped
  rw [Rp.lay d v h, D.depth_py, Bool.true_and]
  exact decide_eq_true hd
theorem RpA.shapedL {H : Hp} {xs : List V} {ds : List D} (h : RpA H xs ds) (hd : D.deps ds ≤ 63) : SeqAt.shaped (.list (D.pys ds)) = true := by
  unfold SeqAt.shaped
  rw [PyData.canLay0, RpA.lay ds xs h, PyData.depth, D.depth_pys, Bool.true_and]
  exact decide_eq_true (by omega)
theorem RpA.length {H : Hp} {xs : List V} {ds : List D} (h : RpA H xs ds) : xs.length = ds.length := by
  induction ds generalizing xs with
  | nil => cases h; rfl
  | cons d ds ih => cases h with | cons r t => rw [List.length_cons, List.length_cons, ih t]
theorem RpA.get {H : Hp} {xs : List V} {ds : List D} (h : RpA H xs ds) {i : Nat} {x : V} (e : xs[i]? = some x) : ∃ d, ds[i]? = some d ∧ Rp H x d := by
  induction ds generalizing xs i with
  | nil => cases h; simp at e
  | cons d ds ih =>
    cases h with
    | cons r t =>
      cases i with
      | zero => simp at e; subst e; exact ⟨d, by simp, r⟩
      | succ i => simp at e; simpa using ih t e
theorem RpA.getD {H : Hp} {xs : List V} {ds : List D} (h : RpA H xs ds) {i : Nat} {d : D} (e : ds[i]? = some d) : ∃ x, xs[i]? = some x ∧ Rp H x d := by
  induction ds generalizing xs i with
  | nil => simp at e
  | cons d' ds ih =>
    cases h with
    | cons r t =>
      cases i with
      | zero => simp at e; subst e; exact ⟨_, by simp, r⟩
      | succ i => simp at e; simpa using ih t e
theorem RpA.app {H : Hp} {xs ys : List V} {ds es : List D} (h : RpA H xs ds) (h' : RpA H ys es) : RpA H (xs ++ ys) (ds ++ es) := by
  induction ds generalizing xs with
  | nil => cases h; exact h'
  | cons d ds ih => cases h with | cons r t => exact .cons r (ih t)
theorem RpA.one {H : Hp} {x : V} {d : D} (h : Rp H x d) : RpA H [x] [d] := .cons h .nil
theorem RpA.snoc {H : Hp} {xs : List V} {ds : List D} {x : V} {d : D} (h : RpA H xs ds) (h' : Rp H x d) : RpA H (xs ++ [x]) (ds ++ [d]) := h.app (.one h')
theorem RpA.take {H : Hp} {xs : List V} {ds : List D} (h : RpA H xs ds) (n : Nat) : RpA H (xs.take n) (ds.take n) := by
  induction n generalizing xs ds with
  | zero => exact .nil
  | succ n ih =>
    cases ds with
    | nil => cases h; exact .nil
    | cons d ds => cases h with | cons r t => exact .cons r (ih t)
theorem RpA.drop {H : Hp} {xs : List V} {ds : List D} (h : RpA H xs ds) (n : Nat) : RpA H (xs.drop n) (ds.drop n) := by
  induction n generalizing xs ds with
  | zero => exact h
  | succ n ih =>
    cases ds with
    | nil => cases h; exact .nil
    | cons d ds => cases h with | cons r t => exact ih t
def cutL {α : Type} (xs : List α) (lo hi : Option Int) : List α := (xs.drop (HT.sIx xs.length 0 lo)).take (HT.sIx xs.length xs.length hi - HT.sIx xs.length 0 lo)
theorem RpA.cut {H : Hp} {xs : List V} {ds : List D} (h : RpA H xs ds) (lo hi : Option Int) : RpA H (cutV xs lo hi) (cutL ds lo hi) := by
  unfold cutV cutL
  rw [h.length]
  exact (h.drop _).take _
theorem RpA.mem {H : Hp} {xs : List V} {ds : List D} (h : RpA H xs ds) {x : V} (m : x ∈ xs) : ∃ d, d ∈ ds ∧ Rp H x d := by
  obtain ⟨i, hi, e⟩ := List.getElem_of_mem m
  obtain ⟨d, e', r⟩ := h.get (List.getElem?_eq_some_iff.mpr ⟨hi, e⟩)
  exact ⟨d, List.mem_of_getElem? e', r⟩
theorem RpA.perm {H : Hp} {xs ys : List V} (p : ys.Perm xs) : ∀ {ds : List D}, RpA H xs ds → ∃ es, RpA H ys es ∧ es.Perm ds := by
  induction p with
  | nil => intro ds h; cases h; exact ⟨[], .nil, .nil⟩
  | cons x _ ih => intro ds h; cases h with | cons r t => obtain ⟨es, h1, h2⟩ := ih t; exact ⟨_ :: es, .cons r h1, .cons _ h2⟩
  | swap x y l => intro ds h; cases h with | cons r t => cases t with | cons r2 t2 => exact ⟨_, .cons r2 (.cons r t2), .swap ..⟩
  | trans _ _ ih1 ih2 => intro ds h; obtain ⟨es, h1, h2⟩ := ih2 h; obtain ⟨fs, h3, h4⟩ := ih1 h1; exact ⟨fs, h3, h4.trans h2⟩
/-- == of data -/
def D.eqv (d e : D) : Bool := PyData.eqv d.py e.py
theorem Rp.eqv_refl {H : Hp} {v : V} {d : D} (h : Rp H v d) : D.eqv d d = true := PySem.SeqAt.eqv_refl _ (Rp.lay d v h)
section
variable {H : Hp} {Q : VK} {K : PySem.W.Frag} {x y : V} {d e : D} {a b : Addr} {xs ys : List V} {ds es : List D}
theorem v_eq_D (h1 : Rp H x d) (h2 : Rp H y e) (l1 : d.dep ≤ 64) (l2 : e.dep ≤ 64) (q : Q (.bl (D.eqv d e)) H) : uEq K x y H Q := v_eq_d (Rp.dp d x h1) (Rp.dp e y h2) (h1.shaped l1) (h2.shaped l2) q
theorem v_ne_D (h1 : Rp H x d) (h2 : Rp H y e) (l1 : d.dep ≤ 64) (l2 : e.dep ≤ 64) (q : Q (.bl (!D.eqv d e)) H) : uNe K x y H Q := v_ne_d (Rp.dp d x h1) (Rp.dp e y h2) (h1.shaped l1) (h2.shaped l2) q
theorem v_eq_Dr (h1 : Rp H x d) (h2 : Rp H y d) (l1 : d.dep ≤ 64) (q : Q (.bl true) H) : uEq K x y H Q := v_eq_D h1 h2 l1 l1 (by rw [h1.eqv_refl]; exact q)
theorem v_ne_Dr (h1 : Rp H x d) (h2 : Rp H y d) (l1 : d.dep ≤ 64) (q : Q (.bl false) H) : uNe K x y H Q := v_ne_D h1 h2 l1 l1 (by rw [h1.eqv_refl]; exact q)
/-- lists of data -/
theorem v_eq_Lr (h1 : SqL K H a xs) (h2 : SqL K H b ys) (r1 : RpA H xs ds) (r2 : RpA H ys ds) (l1 : D.deps ds ≤ 63) (q : Q (.bl true) H) : uEq K (.ref a) (.ref b) H Q :=
  v_eq_d (.lst h1 (RpA.dp ds xs r1)) (.lst h2 (RpA.dp ds ys r2)) (r1.shapedL l1) (r2.shapedL l1) (by rw [PyData.eqv, PySem.SeqAt.eqvAll_refl _ (RpA.lay ds xs r1)]; exact q)
theorem v_ne_Lr (h1 : SqL K H a xs) (h2 : SqL K H b ys) (r1 : RpA H xs ds) (r2 : RpA H ys ds) (l1 : D.deps ds ≤ 63) (q : Q (.bl false) H) : uNe K (.ref a) (.ref b) H Q :=
  v_ne_d (.lst h1 (RpA.dp ds xs r1)) (.lst h2 (RpA.dp ds ys r2)) (r1.shapedL l1) (r2.shapedL l1) (by rw [PyData.eqv, PySem.SeqAt.eqvAll_refl _ (RpA.lay ds xs r1)]; exact q)
end
/-! ## 16. keys as data -/
def keyD : Key → D
  | .inl i => .int i
  | .inr s => .str s
def keyOkB : Key → Bool
  | .inl _ => true
  | .inr s => PyData.strOk s
theorem rp_key {H : Hp} {k : Key} (h : keyOkB k = true) : Rp H (kV k) (keyD k) := by
  cases k with
  | inl i => exact .int i
  | inr s => exact .str h
theorem rpA_keys {H : Hp} : ∀ {ks : List Key}, ks.all keyOkB = true → RpA H (ks.map kV) (ks.map keyD)
  | [], _ => .nil
  | k :: ks, h => by
    rw [List.all_cons, Bool.and_eq_true] at h
    exact .cons (rp_key h.1) (rpA_keys h.2)
theorem eqv_key (k l : Key) : PyData.eqv (keyD k).py (keyD l).py = decide (k = l) := by
  cases k <;> cases l
  · rename_i i j
    show (i == j) = _
    by_cases h : i = j
    · subst h; simp
    · have : (Sum.inl i : Key) ≠ Sum.inl j := fun e => h (Sum.inl.inj e)
      simp [h]
  · rfl
  · rfl
  · rename_i i j
    show (i == j) = _
    by_cases h : i = j
    · subst h; simp
    · simp [h]
theorem eqv_keys : ∀ ks ls : List Key, PyData.eqvAll (D.pys (ks.map keyD)) (D.pys (ls.map keyD)) = decide (ks = ls)
  | [], [] => rfl
  | [], _ :: _ => rfl
  | _ :: _, [] => rfl
  | k :: ks, l :: ls => by
    show (PyData.eqv (keyD k).py (keyD l).py && PyData.eqvAll (D.pys (ks.map keyD)) (D.pys (ls.map keyD))) = _
    rw [eqv_key, eqv_keys]
    by_cases h : k = l
    · subst h; simp
    · simp [h]
theorem dep_keys (ks : List Key) : D.deps (ks.map keyD) = 0 := by
  have := D.deps_le (xs := ks.map keyD) (n := 0) fun x hx => by
    obtain ⟨k, _, rfl⟩ := List.mem_map.mp hx
    cases k <;> exact Nat.le_refl 0
  omega
/-- tuples of keys -/
inductive Cls (H : Hp) : List V → List (List Key) → Prop
  | nil : Cls H [] []
  | cons {t : Addr} {xs : List V} {k : List Key} {ks : List (List Key)} : H t = some (.tup (k.map kV)) → Cls H xs ks → Cls H (.ref t :: xs) (k :: ks)
theorem Cls.on {S : List Addr} {H H' : Hp} {xs : List V} {ks : List (List Key)} (h : Cls H xs ks) (c : Chg S H H') : Cls H' xs ks := by
  induction h with
  | nil => exact .nil
  | cons e _ ih => exact .cons (c.tup e) ih
theorem Cls.length {H : Hp} {xs : List V} {ks : List (List Key)} (h : Cls H xs ks) : xs.length = ks.length := by
  induction h with
  | nil => rfl
  | cons e _ ih => rw [List.length_cons, List.length_cons, ih]
theorem Cls.app {H : Hp} {xs ys : List V} {ks ls : List (List Key)} (h : Cls H xs ks) (h' : Cls H ys ls) : Cls H (xs ++ ys) (ks ++ ls) := by
  induction h with
  | nil => exact h'
  | cons e _ ih => exact .cons e ih
theorem Cls.snoc {H : Hp} {xs : List V} {ks : List (List Key)} {t : Addr} {k : List Key} (h : Cls H xs ks) (e : H t = some (.tup (k.map kV))) : Cls H (xs ++ [.ref t]) (ks ++ [k]) := h.app (.cons e .nil)
theorem Cls.get {H : Hp} {xs : List V} {ks : List (List Key)} (h : Cls H xs ks) {i : Nat} {x : V} (e : xs[i]? = some x) : ∃ t k, x = .ref t ∧ ks[i]? = some k ∧ H t = some (.tup (k.map kV)) := by
  induction h generalizing i with
  | nil => simp at e
  | cons e' _ ih =>
    cases i with
    | zero => simp at e; subst e; exact ⟨_, _, rfl, by simp, e'⟩
    | succ i => simp at e; simpa using ih e
theorem Cls.mem {H : Hp} {xs : List V} {ks : List (List Key)} (h : Cls H xs ks) {x : V} (m : x ∈ xs) : ∃ t k, x = .ref t ∧ k ∈ ks ∧ H t = some (.tup (k.map kV)) := by
  obtain ⟨i, hi, e⟩ := List.getElem_of_mem m
  obtain ⟨t, k, e1, e2, e3⟩ := h.get (List.getElem?_eq_some_iff.mpr ⟨hi, e⟩)
  exact ⟨t, k, e1, List.mem_of_getElem? e2, e3⟩
theorem Cls.perm {H : Hp} {xs ys : List V} (p : ys.Perm xs) : ∀ {ks : List (List Key)}, Cls H xs ks → ∃ ls, Cls H ys ls ∧ ls.Perm ks := by
  induction p with
  | nil => intro ds h; cases h; exact ⟨[], .nil, .nil⟩
  | cons x _ ih => intro ds h; cases h with | cons r t => obtain ⟨es, h1, h2⟩ := ih t; exact ⟨_ :: es, .cons r h1, .cons _ h2⟩
  | swap x y l => intro ds h; cases h with | cons r t => cases t with | cons r2 t2 => exact ⟨_, .cons r2 (.cons r t2), .swap ..⟩
  | trans _ _ ih1 ih2 => intro ds h; obtain ⟨es, h1, h2⟩ := ih2 h; obtain ⟨fs, h3, h4⟩ := ih1 h1; exact ⟨fs, h3, h4.trans h2⟩
def cellD (k : List Key) : D := .tup (k.map keyD)
theorem rp_cell {H : Hp} {t : Addr} {k : List Key} (e : H t = some (.tup (k.map kV))) (h : k.all keyOkB = true) : Rp H (.ref t) (cellD k) := .tup e (rpA_keys h)
theorem Cls.rpA {H : Hp} {xs : List V} {ks : List (List Key)} (h : Cls H xs ks) (hk : ∀ k ∈ ks, k.all keyOkB = true) : RpA H xs (ks.map cellD) := by
  induction h with
  | nil => exact .nil
  | cons e _ ih => exact .cons (rp_cell e (hk _ List.mem_cons_self)) (ih fun k m => hk k (List.mem_cons_of_mem _ m))
theorem dep_cell (k : List Key) : (cellD k).dep = 1 := by rw [cellD, D.dep, dep_keys]
theorem dep_cells (ks : List (List Key)) : D.deps (ks.map cellD) ≤ 1 := D.deps_le fun x hx => by
  obtain ⟨k, _, rfl⟩ := List.mem_map.mp hx
  rw [dep_cell]; exact Nat.le_refl 1
def inK (k : List Key) (ks : List (List Key)) : Bool := ks.any fun l => decide (l = k)
theorem inK_iff {k : List Key} {ks : List (List Key)} : inK k ks = true ↔ k ∈ ks := by
  unfold inK
  rw [List.any_eq_true]
  constructor
  · rintro ⟨l, h1, h2⟩
    have : l = k := of_decide_eq_true h2
    subst this; exact h1
  · intro h
    exact ⟨k, h, decide_eq_true rfl⟩
theorem any_cells (ks : List (List Key)) (k : List Key) : ((D.pys (ks.map cellD)).any fun z => PyData.eqv z (cellD k).py) = inK k ks := by
  induction ks with
  | nil => rfl
  | cons l ks ih =>
    show (PyData.eqv (cellD l).py (cellD k).py || _) = (decide (l = k) || inK k ks)
    rw [ih, show PyData.eqv (cellD l).py (cellD k).py = decide (l = k) from eqv_keys l k]
section
variable {H : Hp} {Q : VK} {K : PySem.W.Frag} {t b : Addr} {xs : List V} {k : List Key} {ks : List (List Key)}
/-- a tuple of keys in a list of such -/
theorem v_in_cells (h1 : SqL K H b xs) (hc : Cls H xs ks) (h2 : H t = some (.tup (k.map kV))) (hk : k.all keyOkB = true) (hks : ∀ k ∈ ks, k.all keyOkB = true) (q : Q (.bl (inK k ks)) H) : uIn K false (.ref t) (.ref b) H Q :=
  .inl (.inl (.inr ⟨_, _, Rp.dp _ _ (rp_cell h2 hk), .lst h1 (RpA.dp _ _ (hc.rpA hks)), (rp_cell h2 hk).shaped (by rw [dep_cell]; decide), (hc.rpA hks).shapedL (Nat.le_trans (dep_cells ks) (by decide)), by
    show Q (.bl ((D.pys (ks.map cellD)).any fun z => PyData.eqv z (cellD k).py)) H
    rw [any_cells]; exact q⟩))
theorem v_nin_cells (h1 : SqL K H b xs) (hc : Cls H xs ks) (h2 : H t = some (.tup (k.map kV))) (hk : k.all keyOkB = true) (hks : ∀ k ∈ ks, k.all keyOkB = true) (q : Q (.bl (!inK k ks)) H) : uIn K true (.ref t) (.ref b) H Q :=
  .inl (.inl (.inr ⟨_, _, Rp.dp _ _ (rp_cell h2 hk), .lst h1 (RpA.dp _ _ (hc.rpA hks)), (rp_cell h2 hk).shaped (by rw [dep_cell]; decide), (hc.rpA hks).shapedL (Nat.le_trans (dep_cells ks) (by decide)), by
    show Q (.bl (!(D.pys (ks.map cellD)).any fun z => PyData.eqv z (cellD k).py)) H
    rw [any_cells]; exact q⟩))
/-- sorted of them -/
theorem v_sorted_cells (h : SqL K H b xs) (hc : Cls H xs ks) (hf : ∀ k ∈ ks, ∃ z r, k = .inr z :: r) (hl : ∀ k ∈ ks, ∀ l ∈ ks, likeK k l = true)
    (q : ∀ ys ls p H', Cls H ys ls → ls.Perm ks → ls.Pairwise (fun k l => lexK l k = false) → H p = none → Chg [] H H' → H' p = some (.lst ys) → Q (.ref p) H') : uSorted K [.ref b] H Q := by
  classical
  have key : ∀ x ∈ xs, ∃ (t : Addr) (k : List Key), x = .ref t ∧ k ∈ ks ∧ H t = some (.tup (k.map kV)) := fun x m => hc.mem m
  let f : V → List Key := fun x => if h : ∃ (t : Addr) (k : List Key), x = V.ref t ∧ H t = some (.tup (k.map kV)) then h.choose_spec.choose else []
  have kinj : ∀ {k l : List Key}, k.map kV = l.map kV → k = l := by
    intro k
    induction k with
    | nil => intro l e; cases l with
      | nil => rfl
      | cons y l => cases e
    | cons x k ih => intro l e; cases l with
      | nil => cases e
      | cons y l =>
        simp only [List.map_cons, List.cons.injEq] at e
        have : x = y := by cases x <;> cases y <;> simp [kV] at e <;> simp [e]
        rw [this, ih e.2]
  have fk : ∀ {t : Addr} {k : List Key}, H t = some (.tup (k.map kV)) → f (.ref t) = k := by
    intro t k e
    have hex : ∃ (t' : Addr) (k' : List Key), V.ref t = V.ref t' ∧ H t' = some (.tup (k'.map kV)) := ⟨t, k, rfl, e⟩
    have : f (.ref t) = hex.choose_spec.choose := dif_pos hex
    rw [this]
    have k2 : ∀ (a' : Addr) (k' : List Key), V.ref t = V.ref a' ∧ H a' = some (.tup (k'.map kV)) → k' = k := by
      rintro a' k' ⟨e1, e2⟩
      cases e1
      rw [e] at e2
      simp only [Option.some.injEq, HO.tup.injEq] at e2
      exact (kinj e2).symm
    exact k2 _ _ hex.choose_spec.choose_spec
  have kx : ∀ x ∈ xs, f x ∈ ks ∧ ∃ t, x = .ref t ∧ H t = some (.tup ((f x).map kV)) := fun x m => by
    obtain ⟨t, k, rfl, hk, e⟩ := key x m
    rw [fk e]
    exact ⟨hk, t, rfl, e⟩
  refine .inr ⟨b, xs, fun x => (f x).map kV, fun x y => lexK (f x) (f y), rfl, h, fun x m => ?_, .inl fun x m => ?_, swo_lexK f, fun x mx y my => ?_, fun ys p hs hp hn => ?_⟩
  · obtain ⟨_, t, e, e'⟩ := kx x m
    exact ⟨t, e, SqT.of e'⟩
  · obtain ⟨z, r, e⟩ := hf _ (kx x m).1
    exact ⟨z, r.map kV, by show (f x).map kV = _; rw [e]; rfl⟩
  · exact lexV_keys (hl _ (kx x mx).1 _ (kx y my).1)
  · obtain ⟨ls, c1, c2⟩ := Cls.perm hp hc
    refine q ys ls p _ c1 c2 ?_ hn (.new hn) upd_same
    have el : ls = ys.map f := by
      clear hs hp c2
      induction c1 with
      | nil => rfl
      | cons e _ ih => rw [List.map_cons, fk e, ih]
    rw [el, List.pairwise_map]
    exact hs
end
end RT

namespace RT
open PySem PySem.Spec PyProof.Rows L2
/-! ## 17. programs, as data -/
inductive Vl where
  | num (i : Int)
  | box (z : Str)
  | size (z : Str)
  | neg (v : Vl)
  | item (z : Str) (v : Vl)
  | bin (w : Str) (a b : Vl)
def Vl.d : Vl → D
  | .num i => .tup [.str "number", .int i]
  | .box z => .tup [.str "box", .str z]
  | .size z => .tup [.str "size", .str z]
  | .neg v => .tup [.str "not", v.d]
  | .item z v => .tup [.str "item", .str z, v.d]
  | .bin w a b => .tup [.str w, a.d, b.d]
def Vl.dp : Vl → Nat
  | .neg v => v.dp + 1
  | .item _ v => v.dp + 1
  | .bin _ a b => max a.dp b.dp + 1
  | _ => 1
def binW : List Str := ["plus", "minus", "less", "same", "times", "over", "rest"]
def Vl.ok (B L : Str → Prop) : Vl → Prop
  | .num i => 0 ≤ i ∧ i < 1000000
  | .box z => B z
  | .size z => L z
  | .neg v => v.ok B L
  | .item z v => L z ∧ v.ok B L
  | .bin w a b => w ∈ binW ∧ a.ok B L ∧ b.ok B L
inductive Rw where
  | set (x : Str) (v : Vl)
  | push (l : Str) (v : Vl)
  | pop (x l : Str)
  | put (l : Str) (v u : Vl)
  | ask (x d : Str)
  | tell (v : Vl)
  | fail (v : Vl)
  | call (x f : Str) (vs : List Vl)
  | ret (v : Vl)
  | ife (v : Vl) (a b : List Rw)
  | whl (v : Vl) (a : List Rw)
  | tr (a : List Rw) (x : Str) (b : List Rw)
mutual
def Rw.d : Rw → D
  | .set x v => .tup [.str "set", .str x, v.d]
  | .push l v => .tup [.str "push", .str l, v.d]
  | .pop x l => .tup [.str "pop", .str x, .str l]
  | .put l v u => .tup [.str "put", .str l, v.d, u.d]
  | .ask x d => .tup [.str "ask", .str x, .str d]
  | .tell v => .tup [.str "tell", v.d]
  | .fail v => .tup [.str "fail", v.d]
  | .call x f vs => .tup [.str "call", .str x, .str f, .tup (vs.map Vl.d)]
  | .ret v => .tup [.str "return", v.d]
  | .ife v a b => .tup [.str "if", v.d, .tup (Rw.ds a), .tup (Rw.ds b)]
  | .whl v a => .tup [.str "while", v.d, .tup (Rw.ds a)]
  | .tr a x b => .tup [.str "try", .tup (Rw.ds a), .str x, .tup (Rw.ds b)]
def Rw.ds : List Rw → List D
  | [] => []
  | r :: l => r.d :: Rw.ds l
end
theorem Rw.ds_eq : ∀ l : List Rw, Rw.ds l = l.map Rw.d
  | [] => rfl
  | r :: l => by rw [Rw.ds, Rw.ds_eq l]; rfl
mutual
def Rw.dpt : Rw → Nat
  | .ife _ a b => max (Rw.dpts a) (Rw.dpts b) + 1
  | .whl _ a => Rw.dpts a + 1
  | .tr a _ b => max (Rw.dpts a) (Rw.dpts b) + 1
  | _ => 1
def Rw.dpts : List Rw → Nat
  | [] => 0
  | r :: l => max r.dpt (Rw.dpts l)
end
mutual
def Rw.cnt : Rw → Nat
  | .ife _ a b => Rw.cnts a + Rw.cnts b + 1
  | .whl _ a => Rw.cnts a + 1
  | .tr a _ b => Rw.cnts a + Rw.cnts b + 1
  | _ => 1
def Rw.cnts : List Rw → Nat
  | [] => 0
  | r :: l => r.cnt + Rw.cnts l
end
theorem Rw.cnts_app : ∀ (l m : List Rw), Rw.cnts (l ++ m) = Rw.cnts l + Rw.cnts m
  | [], m => by show Rw.cnts m = 0 + _; omega
  | r :: l, m => by show r.cnt + Rw.cnts (l ++ m) = r.cnt + Rw.cnts l + _; rw [Rw.cnts_app l m]; omega
theorem Rw.cnt_pos : ∀ r : Rw, 1 ≤ r.cnt := by
  intro r
  cases r <;> simp [Rw.cnt]
theorem Rw.len_cnts : ∀ l : List Rw, l.length ≤ Rw.cnts l
  | [] => Nat.le_refl _
  | r :: l => by
    have := Rw.len_cnts l
    have := Rw.cnt_pos r
    rw [Rw.cnts, List.length_cons]; omega
theorem Rw.dpt_pos : ∀ r : Rw, 1 ≤ r.dpt := by
  intro r
  cases r <;> simp [Rw.dpt]
theorem Rw.cnts_zero : ∀ l : List Rw, Rw.dpts l = 0 → Rw.cnts l = 0
  | [], _ => rfl
  | r :: l, h => by have := Rw.dpt_pos r; simp only [Rw.dpts] at h; omega
theorem Rw.cnt_plain : ∀ {r : Rw}, r.dpt = 1 → r.cnt = 1
  | .ife v a b, h => by
    simp only [Rw.dpt] at h
    have := Rw.cnts_zero a (by omega); have := Rw.cnts_zero b (by omega)
    simp only [Rw.cnt]; omega
  | .whl v a, h => by
    simp only [Rw.dpt] at h
    have := Rw.cnts_zero a (by omega)
    simp only [Rw.cnt]; omega
  | .tr a x b, h => by
    simp only [Rw.dpt] at h
    have := Rw.cnts_zero a (by omega); have := Rw.cnts_zero b (by omega)
    simp only [Rw.cnt]; omega
  | .set .., _ => rfl
  | .push .., _ => rfl
  | .pop .., _ => rfl
  | .put .., _ => rfl
  | .ask .., _ => rfl
  | .tell .., _ => rfl
  | .fail .., _ => rfl
  | .call .., _ => rfl
  | .ret .., _ => rfl
/-- the names that rows may have -/
structure Nms where
  B : Str → Prop
  L : Str → Prop
  F : Str → Nat → Prop
  Dr : Str → Prop
  ins : Bool
def Vl.ok4 (N : Nms) (v : Vl) : Prop := v.ok N.B N.L ∧ v.dp ≤ 4
mutual
def Rw.ok (N : Nms) : Rw → Prop
  | .set x v => N.B x ∧ v.ok4 N
  | .push l v => N.L l ∧ v.ok4 N
  | .pop x l => N.B x ∧ N.L l
  | .put l v u => N.L l ∧ v.ok4 N ∧ u.ok4 N
  | .ask x d => N.B x ∧ N.Dr d
  | .tell v => v.ok4 N
  | .fail v => v.ok4 N
  | .call x f vs => N.B x ∧ N.F f vs.length ∧ vs.length ≤ 3 ∧ ∀ v ∈ vs, v.ok4 N
  | .ret v => N.ins = true ∧ v.ok4 N
  | .ife v a b => v.ok4 N ∧ Rw.oks N a ∧ Rw.oks N b
  | .whl v a => v.ok4 N ∧ Rw.oks N a
  | .tr a x b => N.B x ∧ Rw.oks N a ∧ Rw.oks N b
def Rw.oks (N : Nms) : List Rw → Prop
  | [] => True
  | r :: l => r.ok N ∧ Rw.oks N l
end
theorem Rw.oks_iff {N : Nms} : ∀ {l : List Rw}, Rw.oks N l ↔ ∀ r ∈ l, r.ok N
  | [] => by simp [Rw.oks]
  | r :: l => by rw [Rw.oks, Rw.oks_iff]; simp
theorem Rw.oks_app {N : Nms} {l m : List Rw} (h : Rw.oks N l) (h' : Rw.oks N m) : Rw.oks N (l ++ m) := by
  rw [Rw.oks_iff] at *
  intro r hr
  exact (List.mem_append.mp hr).elim (h r) (h' r)
theorem Rw.ds_app (l m : List Rw) : Rw.ds (l ++ m) = Rw.ds l ++ Rw.ds m := by rw [Rw.ds_eq, Rw.ds_eq, Rw.ds_eq, List.map_append]
theorem Rw.dpts_app : ∀ (l m : List Rw), Rw.dpts (l ++ m) = max (Rw.dpts l) (Rw.dpts m)
  | [], m => by show Rw.dpts m = max 0 _; omega
  | r :: l, m => by show max r.dpt (Rw.dpts (l ++ m)) = max (max r.dpt (Rw.dpts l)) _; rw [Rw.dpts_app l m]; omega
theorem Rw.dpts_mem {l : List Rw} {r : Rw} (h : r ∈ l) : r.dpt ≤ Rw.dpts l := by
  induction l with
  | nil => cases h
  | cons x l ih =>
    rw [Rw.dpts]
    rcases List.mem_cons.mp h with rfl | h
    · omega
    · have := ih h; omega
theorem Vl.dep : ∀ v : Vl, v.d.dep = v.dp
  | .num _ => rfl
  | .box _ => rfl
  | .size _ => rfl
  | .neg v => by simp [Vl.d, D.dep, D.deps, Vl.dp, Vl.dep v]
  | .item _ v => by simp [Vl.d, D.dep, D.deps, Vl.dp, Vl.dep v]
  | .bin _ a b => by simp [Vl.d, D.dep, D.deps, Vl.dp, Vl.dep a, Vl.dep b]
mutual
theorem Rw.dep_le {N : Nms} : ∀ {r : Rw}, r.ok N → r.d.dep ≤ 4 + 2 * r.dpt
  | .set x v, h => by have := h.2.2; simp [Rw.d, D.dep, D.deps, Rw.dpt, Vl.dep]; omega
  | .push l v, h => by have := h.2.2; simp [Rw.d, D.dep, D.deps, Rw.dpt, Vl.dep]; omega
  | .pop x l, h => by simp [Rw.d, D.dep, D.deps, Rw.dpt]
  | .put l v u, h => by have := h.2.1.2; have := h.2.2.2; simp [Rw.d, D.dep, D.deps, Rw.dpt, Vl.dep]; omega
  | .ask x d, h => by simp [Rw.d, D.dep, D.deps, Rw.dpt]
  | .tell v, h => by have := h.2; simp [Rw.d, D.dep, D.deps, Rw.dpt, Vl.dep]; omega
  | .fail v, h => by have := h.2; simp [Rw.d, D.dep, D.deps, Rw.dpt, Vl.dep]; omega
  | .call x f vs, h => by
    have h3 := h.2.2.2
    have : D.deps (vs.map Vl.d) ≤ 4 := D.deps_le fun y hy => by
      obtain ⟨v, hv, rfl⟩ := List.mem_map.mp hy
      rw [Vl.dep]; exact (h3 v hv).2
    simp [Rw.d, D.dep, D.deps, Rw.dpt]; omega
  | .ret v, h => by have := h.2.2; simp [Rw.d, D.dep, D.deps, Rw.dpt, Vl.dep]; omega
  | .ife v a b, h => by
    have := h.1.2; have := Rw.deps_le h.2.1; have := Rw.deps_le h.2.2
    simp [Rw.d, D.dep, D.deps, Rw.dpt, Vl.dep]; omega
  | .whl v a, h => by
    have := h.1.2; have := Rw.deps_le h.2
    simp [Rw.d, D.dep, D.deps, Rw.dpt, Vl.dep]; omega
  | .tr a x b, h => by
    have := Rw.deps_le h.2.1; have := Rw.deps_le h.2.2
    simp [Rw.d, D.dep, D.deps, Rw.dpt]; omega
theorem Rw.deps_le {N : Nms} : ∀ {l : List Rw}, Rw.oks N l → D.deps (Rw.ds l) ≤ 4 + 2 * Rw.dpts l
  | [], _ => Nat.zero_le _
  | r :: l, h => by
    have := Rw.dep_le h.1; have := Rw.deps_le h.2
    simp only [Rw.ds, D.deps, Rw.dpts]; omega
end
structure Pg where
  bx : List (Str × Int)
  ls : List (Str × List Int)
  fs : List (Str × List Str × List Str × List Rw)
  rows : List Rw
def bxD (p : Str × Int) : D := .tup [.str p.1, .int p.2]
def lsD (p : Str × List Int) : D := .tup [.str p.1, .tup (p.2.map D.int)]
def fnD (f : Str × List Str × List Str × List Rw) : D := .tup [.str f.1, .tup (f.2.1.map D.str), .tup (f.2.2.1.map D.str), .tup (Rw.ds f.2.2.2)]
def Pg.d (p : Pg) : D := .tup [.tup (p.bx.map bxD), .tup (p.ls.map lsD), .tup (p.fs.map fnD), .tup (Rw.ds p.rows)]
theorem rpA_strs {H : Hp} {zs : List Str} (h : ∀ z ∈ zs, PyData.strOk z = true) : RpA H (zs.map V.str) (zs.map D.str) := by
  induction zs with
  | nil => exact .nil
  | cons z zs ih => exact .cons (.str (h z List.mem_cons_self)) (ih fun y hy => h y (List.mem_cons_of_mem _ hy))
theorem rpA_ints {H : Hp} (ns : List Int) : RpA H (ns.map V.int) (ns.map D.int) := by
  induction ns with
  | nil => exact .nil
  | cons z zs ih => exact .cons (.int z) ih
theorem strs_of_rp {H : Hp} : ∀ {zs : List Str} {xs : List V}, RpA H xs (zs.map D.str) → xs = zs.map V.str ∧ ∀ z ∈ zs, PyData.strOk z = true
  | [], _, h => by cases h; exact ⟨rfl, by simp⟩
  | z :: zs, _, h => by
    cases h with
    | cons r t =>
      cases r with
      | str hz =>
        obtain ⟨e, h2⟩ := strs_of_rp t
        refine ⟨by rw [e]; rfl, fun y hy => ?_⟩
        rcases List.mem_cons.mp hy with rfl | hy
        · exact hz
        · exact h2 y hy
theorem ints_of_rp {H : Hp} : ∀ {zs : List Int} {xs : List V}, RpA H xs (zs.map D.int) → xs = zs.map V.int
  | [], _, h => by cases h; rfl
  | z :: zs, _, h => by cases h with | cons r t => cases r; rw [ints_of_rp t]; rfl
theorem wordsOk : ∀ w ∈ ([("number" : Str), "box", "size", "not", "item", "set", "push", "pop", "put", "ask", "tell", "fail", "call", "return", "if", "while", "try", "def", "plus", "minus", "less", "same", "times", "over", "rest", "door", "a", "zz"] : List Str), PyData.strOk w = true := by decide +kernel
theorem Rp.tupI {H : Hp} {v : V} {ds : List D} (h : Rp H v (.tup ds)) : ∃ a xs, v = .ref a ∧ H a = some (.tup xs) ∧ RpA H xs ds := by
  cases h with
  | tup e r => exact ⟨_, _, rfl, e, r⟩
section
variable {H : Hp} {Q : VK} {K : PySem.W.Frag}
theorem v_ix_strs {a : Addr} {zs : List Str} {i : Int} (h : SqL K H a (zs.map V.str)) (h0 : 0 ≤ i) (h1 : i < zs.length) (q : ∀ z, z ∈ zs → Q (.str z) H) : uIx K (.ref a) (.int i) H Q :=
  v_ix_lany h h0 (by rw [List.length_map]; exact h1) fun v hv => by
    obtain ⟨z, hz, rfl⟩ := List.mem_map.mp (List.mem_of_getElem? hv)
    exact q z hz
end
end RT

/-! ## 18. sets of texts: walked and sorted (after the rules for sets of ints) -/
namespace RT
open PySem PySem.Spec PyProof.Rows L2
def keyS (e : Int × Value) : Str := match e.2 with | .str k _ => k | _ => ⟨#[]⟩
def GoodS (w : World) (e : Int × Value) : Prop := ∃ k tk, e.2 = Value.str k tk ∧ e.1 = hashStr w k
def SetS (w : World) (h : Heap) (a : Addr) (S : Str → Bool) (n : Nat) : Prop :=
  ∃ o es ep t, h.get? a = some o ∧ o.ExactSet ∧ o.data = .set es ep t ∧ (∀ e ∈ es.toList, GoodS w e) ∧ (es.toList.map keyS).Nodup ∧ (∀ k, S k = true ↔ k ∈ es.toList.map keyS) ∧
    es.size < scanBound ∧ t.fits es.size = true ∧ es.size = n ∧ Ris t.place.toList ∧ (w.params.followText "set-order" = true ∨ t.led = true)
section
variable {P : Program} {w : World} {h h' : Heap} {a : Addr} {S : Str → Bool} {n : Nat}

theorem SetS.at (R : SetS w h a S n) (k : ∀ o, h.get? a = some o → h'.get? a = some o) : SetS w h' a S n := by
  obtain ⟨o, es, ep, t, ho, r⟩ := R
  exact ⟨o, es, ep, t, k o ho, r⟩
theorem SetS.lt (R : SetS w h a S n) : a < h.objs.size := by
  obtain ⟨o, es, ep, t, ho, r⟩ := R
  exact Heap.lt_size ho
theorem SetS.congr {S' : Str → Bool} (R : SetS w h a S n) (e : ∀ k, S' k = S k) : SetS w h a S' n := by
  have q : S' = S := funext e
  rw [q]; exact R
theorem sgood_elems {l : List (Int × Value)} (g : ∀ e ∈ l, (GoodS w) e) : ElemsOf (PySem.strKind P w) l := fun e he => by
  obtain ⟨k, tk, h1, h2⟩ := g e he
  exact ⟨⟨k, by rw [h1]; exact strKind_is P w k tk, h2⟩, by rw [h1] <;> rfl⟩
theorem sgood_is {e : Int × Value} (g : (GoodS w) e) (k : Str) : (PySem.strKind P w).is k e.2 = true ↔ keyS e = k := by
  obtain ⟨k0, tk, h1, _⟩ := g
  unfold keyS
  rw [h1]
  show ((k0 == k) = true) ↔ k0 = k
  exact beq_iff_eq
theorem sgood_mem {l : List (Int × Value)} (g : ∀ e ∈ l, (GoodS w) e) (k : Str) : k ∈ l.map keyS ↔ ∃ e ∈ l, (PySem.strKind P w).is k e.2 = true := by
  rw [List.mem_map]
  constructor
  · rintro ⟨e, he, q⟩
    exact ⟨e, he, (sgood_is (g e he) k).2 q⟩
  · rintro ⟨e, he, q⟩
    exact ⟨e, he, (sgood_is (g e he) k).1 q⟩
theorem SetS.setOf (R : SetS w h a S n) : h.SetOf (PySem.strKind P w) a S n := by
  obtain ⟨o, es, ep, t, ho, hx, hd, g, nd, hm, hb, hf, hn, _⟩ := R
  exact ⟨o, es, ep, t, ho, hx, hd, sgood_elems g, fun k => (hm k).trans (sgood_mem g k), hb, hf, hn⟩
end
section
variable {P : Program} {w : World} {A : Around} {E : Value → Shared → Prop} {s : Shared} {a : Addr} {S : Str → Bool} {n : Nat}

/-! ### add -/
theorem setS_add_tail {g : Bool → Sem Unit} (hg : ∀ (b : Bool) (s₁ : Shared) (Q' : Unit → Shared → Prop), Q' () s₁ → wpAny (model P w) A (g b) Q' E s₁)
    {o : Obj} {es : Array (Int × Value)} {ep : Nat} {t : SetTable} (ho : s.heap.get? a = some o) (hex : o.ExactSet) (hd : o.data = .set es ep t)
    {es1 : Array (Int × Value)} {t2 : SetTable} {S' : Str → Bool} (g1 : ∀ e ∈ es1.toList, (GoodS w) e) (nd1 : (es1.toList.map keyS).Nodup) (m1 : ∀ k, S' k = true ↔ k ∈ es1.toList.map keyS)
    (hb1 : es1.size < scanBound) (hf2 : t2.fits es1.size = true) (hr : Ris t2.place.toList) (hl : w.params.followText "set-order" = true ∨ t2.led = true) {wasDummy : Bool} {R : Option Bool → Shared → Prop}
    (hR : ∀ h', Heap.SameBut a s.heap h' → SetS w h' a S' es1.size → R (some true) { s with heap := h' }) :
    wpAny (model P w) A (do
        storeSet a es1 t2
        if (!wasDummy && t2.tooFull) = true then do
            g (relayAll t2 es1 (SetTable.grown es1.size)).2.2
            storeSet a (relayAll t2 es1 (SetTable.grown es1.size)).1 (relayAll t2 es1 (SetTable.grown es1.size)).2.1
            pure (some true)
          else pure (some true)) R E s := by
  refine wpAny_bind (wpAny_storeSet_of ho hd ?_ (fits_of_scanBound hb1))
  have ho1 := store_at (es' := es1) (t' := t2) ho hd
  have sb1 := Heap.SameBut.update s.heap a (Obj.putSet es1 t2)
  split
  · have pm := relayAll_perm t2 es1 (SetTable.grown es1.size)
    have hf3 := relayAll_fits t2 es1 (SetTable.grown es1.size)
    have hr3 := relayAll_ris t2 es1 (SetTable.grown es1.size)
    have hl3 := relayAll_led t2 es1 (SetTable.grown es1.size)
    generalize relayAll t2 es1 (SetTable.grown es1.size) = Z at pm hf3 hr3 hl3 ⊢
    obtain ⟨es2, t3, gave⟩ := Z
    dsimp only at pm hf3 hr3 hl3 ⊢
    have hsz : es2.size = es1.size := by rw [← Array.length_toList, pm.length_eq, Array.length_toList]
    have hb2 : es2.size < scanBound := by rw [hsz]; exact hb1
    refine wpAny_bind (hg _ _ _ ?_)
    refine wpAny_bind (wpAny_storeSet_of ho1 rfl ?_ (fits_of_scanBound hb2))
    have ho2 := store_at (es' := es2) (t' := t3) ho1 rfl
    refine wpAny_pure (hR _ (sb1.trans (Heap.SameBut.update _ a _)) ?_)
    exact ⟨_, es2, _, t3, ho2, hex, rfl, fun e he => g1 e (pm.mem_iff.mp he), (pm.map keyS).nodup_iff.mpr nd1, fun k => (m1 k).trans (pm.map keyS).mem_iff.symm, hb2, hf3, hsz, hr3,
      hl.imp id fun z => by rw [hl3]; exact z⟩
  · exact wpAny_pure (hR _ sb1 ⟨_, es1, _, t2, ho1, hex, rfl, g1, nd1, m1, hb1, hf2, rfl, hr, hl⟩)

theorem setS_add_hashed {k : Str} {tk : Tok} {Q : Bool → Shared → Prop} (R : SetS w s.heap a S n) (room : n + 1 < scanBound)
    (hQ : ∀ h', Heap.SameBut a s.heap h' → SetS w h' a (fun j => S j || decide (j = k)) (if S k = true then n else n + 1) → Q (!S k) { s with heap := h' }) :
    wpAny (model P w) A (setAddHashed a (.str k tk) ((PySem.strKind P w).hash k)) Q E s := by
  obtain ⟨o, es, ep, t, ho, hex, hd, g, nd, hm, hb, hf, hn, hr, hl⟩ := R
  have hkey : (PySem.strKind P w).is k (.str k tk) = true := strKind_is P w k tk
  have hsc : (Value.str k tk).scannable = true := rfl
  have hel : ElemsOf (PySem.strKind P w) es.toList := sgood_elems g
  unfold setAddHashed setAddHashedIn
  refine wpAny_holding (wpAny_bind (wpAny_setState_of ho hd hf ?_))
  dsimp only
  rw [byScan_of hsc hb hel]
  simp only [↓reduceIte]
  unfold setAddByScan
  refine wpAny_bind ?_
  refine wpAny_bind (wpAny_rule ?_)
  refine wpAny_bind (wpAny_setScan_of hkey ho hd hf hel ?_)
  cases hfi : List.findIdx? (fun e => (PySem.strKind P w).is k e.2) es.toList with
  | some j =>
    dsimp only
    obtain ⟨hj, pj, _⟩ := List.findIdx?_eq_some_iff_getElem.mp hfi
    have hSk : S k = true := (hm k).2 ((sgood_mem (P := P) (w := w) g k).2 ⟨es.toList[j], List.getElem_mem hj, pj⟩)
    refine wpAny_pure (wpAny_pure ?_)
    have q := hQ s.heap (Heap.SameBut.refl a s.heap) ⟨o, es, ep, t, ho, hex, hd, g, nd, fun i => by
      rw [Bool.or_eq_true, decide_eq_true_eq, ← hm i]
      exact ⟨fun z => z.elim id (fun e => e ▸ hSk), .inl⟩, hb, hf, by rw [if_pos hSk]; exact hn, hr, hl⟩
    rw [hSk] at q
    exact q
  | none =>
    dsimp only
    have hnk : k ∉ es.toList.map keyS := fun z => by
      obtain ⟨e, he, q⟩ := (sgood_mem (P := P) (w := w) g k).1 z
      have c := List.findIdx?_eq_none_iff.mp hfi e he
      rw [q] at c
      cases c
    have hSk : S k = false := by
      cases q : S k with
      | false => rfl
      | true => exact absurd ((hm k).1 q) hnk
    have hgw : ∀ (b : Bool) {s₁ : Shared} {Q' : Unit → Shared → Prop}, Q' () s₁ → wpAny (model P w) A (match b with | true => rule "set.scan.the-table-gave-way" | false => pure ()) Q' E s₁ :=
      fun b s₁ Q' q => by cases b <;> first | exact wpAny_pure q | exact wpAny_rule q
    have pm := layNew_perm t es ((PySem.strKind P w).hash k) (.str k tk)
    have hf1 := layNew_fits t es ((PySem.strKind P w).hash k) (.str k tk)
    have hr1 := layNew_ris t es ((PySem.strKind P w).hash k) (.str k tk) hr
    have hl1 := layNew_led t es ((PySem.strKind P w).hash k) (.str k tk)
    generalize layNew t es ((PySem.strKind P w).hash k) (.str k tk) = Z at pm hf1 hr1 hl1 ⊢
    obtain ⟨es1, t1, wasDummy, gave⟩ := Z
    dsimp only at pm hf1 hr1 hl1 ⊢
    rw [Array.toList_push] at pm
    have pc : es1.toList.Perm (((PySem.strKind P w).hash k, Value.str k tk) :: es.toList) := pm.trans (List.perm_append_singleton _ _)
    have pk : (es1.toList.map keyS).Perm (k :: es.toList.map keyS) := pc.map keyS
    have g1 : ∀ e ∈ es1.toList, (GoodS w) e := fun e he => by
      rcases List.mem_cons.mp (pc.mem_iff.mp he) with z | z
      · rw [z]; exact ⟨k, tk, rfl, rfl⟩
      · exact g e z
    have nd1 : (es1.toList.map keyS).Nodup := pk.nodup_iff.mpr (List.nodup_cons.mpr ⟨hnk, nd⟩)
    have m1 : ∀ i, (S i || decide (i = k)) = true ↔ i ∈ es1.toList.map keyS := fun i => by
      rw [Bool.or_eq_true, decide_eq_true_eq, hm i, pk.mem_iff, List.mem_cons]
      exact Or.comm
    have hsz : es1.size = n + 1 := by rw [← Array.length_toList, pc.length_eq, List.length_cons, Array.length_toList, hn]
    have hb1 : es1.size < scanBound := by rw [hsz]; exact room
    have hled : w.params.followText "set-order" = true ∨ t1.led = true := hl.imp id fun z => by rw [hl1]; exact z
    have fin : ∀ h', Heap.SameBut a s.heap h' → SetS w h' a (fun j => S j || decide (j = k)) es1.size → Q true { s with heap := h' } := fun h' sb r => by
      have q := hQ h' sb
      rw [hSk] at q
      rw [hsz] at r
      exact q r
    refine wpAny_bind (hgw _ ?_)
    split
    · refine wpAny_bind ?_
      rw [hashByValue_scannable 8 hsc]
      refine wpAny_pure ?_
      refine setS_add_tail ?_ ho hex hd g1 nd1 m1 hb1 ?_ ?_ ?_ ?_
      · intro b s₁ Q' q; cases b <;> first | exact wpAny_pure q | exact wpAny_rule q
      · first | (split <;> first | exact hf1 | exact SetTable.fits_plain_off hf1) | exact hf1
      · first | (split <;> exact hr1) | exact hr1
      · first | (split <;> exact hled) | exact hled
      · intro h' sb r; dsimp only; exact wpAny_pure (fin h' sb r)
    · refine wpAny_bind (wpAny_pure ?_)
      simp only [↓reduceIte]
      refine setS_add_tail ?_ ho hex hd g1 nd1 m1 hb1 hf1 hr1 hled ?_
      · intro b s₁ Q' q; cases b <;> first | exact wpAny_pure q | exact wpAny_rule q
      · intro h' sb r; dsimp only; exact wpAny_pure (fin h' sb r)

end

theorem setS_new_at {w : World} {h : Heap} {a : Addr} {ns : List Str} (ho : h.get? a = some { cls := .type "set", dict := none, data := .set #[] 0 (.fresh 0 0 (!w.params.followText "set-order")) }) : SetS w h a (fun j => decide (j ∈ ns.take 0)) 0 :=
  ⟨_, #[], 0, _, ho, ⟨rfl, rfl, rfl⟩, rfl, (fun e he => by simp at he), (by simp), (fun k => by simp), (by decide), (by rfl), rfl, List.Pairwise.nil, by
    show _ ∨ (!w.params.followText "set-order") = true
    cases w.params.followText "set-order"
    · exact .inr rfl
    · exact .inl rfl⟩
section
variable {P : Program} {w : World} {A : Around} {E : Value → Shared → Prop} {s : Shared}
theorem set_update_texts {I : Addr} {fp wr : List Addr} {G : Array GenState → Array GenState → Prop} {n : Nat} {Pv : Nat → Value → Prop} {St : Nat → Shared → Prop} {R : Result → Shared → Prop}
    (W : WalksS P w A.in1 I fp wr G n Pv St) (S : Addr) (hSf : S ∉ fp) (ns : List Str) (hn : n = ns.length) (hb : ns.length + 1 < scanBound) (hval : ∀ i v, Pv i v → ∃ k t, ns[i]? = some k ∧ v = .str k t) :
    ∀ (k i : Nat) (s : Shared), n - i = k → i ≤ n → St i s → (∃ c, c ≤ i ∧ SetS w s.heap S (fun j => decide (j ∈ ns.take i)) c) →
      (∀ s' c, Moved (S :: wr) G s s' → c ≤ n → SetS w s'.heap S (fun j => decide (j ∈ ns)) c → R (.ok (.ret .none)) s') →
      codeAny (model P w) A (.builtin "set.update.loop" ⟨[.ref S, .ref I], []⟩) R s := by
  have hSw : S ∉ wr := fun h => hSf (W.sub _ h)
  have hsub : ∀ b ∈ wr, b ∈ S :: wr := fun b hb => List.mem_cons_of_mem _ hb
  intro k
  induction k with
  | zero =>
    intro i s hk' hi hst ⟨c, hc, hS⟩ hR
    have hin : i = n := by omega
    subst hin
    refine codeAny_builtin F.entry_set_update_loop ?_
    rw [Around.under_plainId F.plain_set_update_loop _]
    show wpAny _ A.in1 (pyNext (.ref I) >>= _) _ _ s
    refine wpAny_bind (W.done s _ _ hst fun s' hm => ?_)
    show wpAny _ A.in1 (ret Value.none) _ _ s'
    have e : ns.take i = ns := List.take_of_length_le (by omega)
    rw [e] at hS
    exact wpAny_pure (hR s' c (hm.mono hsub) hc (hS.at fun o e => hm.heap S o hSw e))
  | succ k ih =>
    intro i s hk' hi hst ⟨c, hc, hS⟩ hR
    have hlt : i < n := by omega
    refine codeAny_builtin F.entry_set_update_loop ?_
    rw [Around.under_plainId F.plain_set_update_loop _]
    show wpAny _ A.in1 (pyNext (.ref I) >>= _) _ _ s
    refine wpAny_bind (W.item i s _ _ hlt hst fun v s' hP hst' hm => ?_)
    obtain ⟨z, t, hz, rfl⟩ := hval i v hP
    have hS' : SetS w s'.heap S (fun j => decide (j ∈ ns.take i)) c := hS.at fun o e => hm.heap S o hSw e
    show wpAny _ A.in1 (holding [Value.str z t] (setAdd S (.str z t)) >>= _) _ _ s'
    refine wpAny_bind (wpAny_holding ?_)
    unfold setAdd
    refine wpAny_holding ?_
    refine wpAny_bind ((PySem.strKind P w).pyHash (k := z) (strKind_is _ _ _ _) ?_)
    refine setS_add_hashed (s := { s' with toks := s'.toks + 1 }) hS' (by omega) fun h' hsb hS2 => ?_
    have hS3 : SetS w h' S (fun j => decide (j ∈ ns.take (i + 1))) (if decide (z ∈ ns.take i) = true then c else c + 1) := hS2.congr fun j => by
      rw [List.take_add_one, hz]
      simp [List.mem_append]
    have hc3 : (if decide (z ∈ ns.take i) = true then c else c + 1) ≤ i + 1 := by
      split <;> omega
    refine wpAny_pure ⟨plainId_quiet F.plain_set_update_loop _, ih (i + 1) _ (by omega) hlt (W.frame _ s' _ _ hst' (Nat.le_succ _) fun b hb o e => ?_) ⟨_, hc3, hS3⟩ fun s'' c2 hm'' hc'' hS'' => ?_⟩
    · rw [hsb.2 b (fun h : b = S => hSf (by rw [← h]; exact hb))]; exact e
    · refine hR s'' c2 (Moved.trans W.gtrans ((hm.mono hsub).then_heap (Nat.le_succ _) fun b o hb e => ?_) hm'') hc'' hS''
      rw [hsb.2 b (fun h : b = S => hb (by rw [h]; exact List.mem_cons_self))]; exact e

theorem call_set_texts {l : Addr} {items : Array Value} (ns : List Str) {Q : Value → Shared → Prop} (hh : A.handled = none) (hl : s.heap.IsList l items) (hit : StrsAre items.toList ns) (hb : ns.length + 1 < scanBound)
    (h : ∀ (h' : Heap) (tk c : Nat), SetS w h' s.heap.objs.size (fun j => decide (j ∈ ns)) c → c ≤ ns.length → (∀ b o, s.heap.get? b = some o → h'.get? b = some o) → Q (.ref s.heap.objs.size) { s with heap := h', toks := tk }) :
    wpAny (model P w) A (call (.type "set") [.ref l]) Q E s := by
  have hisz : items.size = ns.length := by
    have q := StrsAre.length hit
    rw [Array.length_toList] at q
    exact q
  obtain ⟨c, tl, hmro⟩ := F.called_set.mro
  have hmade := F.called_set.made
  have hsub := F.called_set.sub
  refine wpAny_call (codeAny_of_tree ?_)
  show wpAny _ _ (callAny (.type "set") _) _ _ _
  refine wpAny_pure ⟨Code.quiet_builtin _ (by decide +kernel), codeAny_builtin F.entry_type_call ?_⟩
  rw [Around.under_plain (weight_type_call_type "set" [.ref l] []) rfl]
  have h1 := F.called_set.notType
  have h2 := F.called_set.canCreate
  have hct := F.typeCall_set_1 (.ref l)
  repeat (any_goals (first | assumption | wp_step))

  refine codeAny_mono (code_set_led1 (.ref l) (E := E) (Q₁ := fun obj s₁ => obj = .ref s.heap.objs.size ∧ s₁ = { s with heap := s.heap.push { cls := .type "set", dict := none, data := .set #[] 0 (.fresh 0 0 (!w.params.followText "set-order")) } }) ⟨rfl, rfl⟩) fun r s₁ hr => ?_
  cases r with
  | error e => exact hr
  | ok fl =>
    cases fl with
    | ret obj =>
      obtain ⟨rfl, rfl⟩ := hr
      have hS : (s.heap.push { cls := .type "set", dict := none, data := .set #[] 0 (.fresh 0 0 (!w.params.followText "set-order")) }).get? s.heap.objs.size = some { cls := .type "set", dict := none, data := .set #[] 0 (.fresh 0 0 (!w.params.followText "set-order")) } := Heap.get?_push_size _ rfl
      have hT : Shared.TypeIs { s with heap := s.heap.push { cls := .type "set", dict := none, data := .set #[] 0 (.fresh 0 0 (!w.params.followText "set-order")) } } (.ref s.heap.objs.size) "set" := ⟨_, hS, rfl⟩
      have hli := F.called_set.init.lookup
      have hbi := F.called_set.init.bind (.ref s.heap.objs.size)
      repeat (any_goals (first | assumption | wp_step))

      refine codeAny_mono (codeAny_call_builtin (R := wants (fun r s₂ => r = .none ∧ ∃ h' tk c, s₂ = { s with heap := h', toks := tk } ∧ SetS w h' s.heap.objs.size (fun j => decide (j ∈ ns)) c ∧ c ≤ ns.length ∧
          (∀ b o, s.heap.get? b = some o → h'.get? b = some o)) E) F.called_set.init.plain F.entry_set_init (check_set_init_1 hT ?_)) fun r₂ s₂ hr₂ => ?_
      · obtain ⟨ol, hol, hcl, nl, hdl⟩ := hl
        obtain ⟨ocls, odict, odata, oslots⟩ := ol
        simp only at hcl hdl
        subst hcl; subst hdl
        have hol' : (s.heap.push { cls := .type "set", dict := none, data := .set #[] 0 (.fresh 0 0 (!w.params.followText "set-order")) }).get? l = some { cls := .type "list", dict := odict, data := .seq items nl, slots := oslots } := Heap.get?_push_of_some _ hol
        have hsls := F.sub_list_set
        have hslf := F.sub_list_frozenset
        have hne : (Value.type "list" == Value.type "dict") = false := by decide
        have hl1 : (s.heap.push { cls := .type "set", dict := none, data := .set #[] 0 (.fresh 0 0 (!w.params.followText "set-order")) }).IsList l items := ⟨_, hol', rfl, nl, rfl⟩
        unfold Builtin.«set.__init__» noKeywords Builtin.Frozenset.updateFrom
        generalize hPI : pyIter = PI
        wp_walk
        subst hPI

        refine wpAny_pyIter_list hl1 ?_
        refine wpAny_bind (wpAny_runValue ?_)
        have hlS : l < s.heap.objs.size := Heap.lt_size hol
        have hh3 : A.in1.in1.in1.handled = none := by simp [hh]
        have hz1 : (s.heap.push { cls := .type "set", dict := none, data := .set #[] 0 (.fresh 0 0 (!w.params.followText "set-order")) }).objs.size = s.heap.objs.size + 1 := Heap.size_push ..
        have hneI : l ≠ (s.heap.push { cls := .type "set", dict := none, data := .set #[] 0 (.fresh 0 0 (!w.params.followText "set-order")) }).objs.size := by
          rw [Heap.size_push]; exact Nat.ne_of_lt (Nat.lt_succ_of_lt hlS)
        have hSf : s.heap.objs.size ∉ [(s.heap.push { cls := .type "set", dict := none, data := .set #[] 0 (.fresh 0 0 (!w.params.followText "set-order")) }).objs.size, l] := by
          rw [Heap.size_push]; simp only [List.mem_cons, List.mem_singleton, List.not_mem_nil, or_false, not_or]
          exact ⟨Nat.ne_of_lt (Nat.lt_succ_self _), Nat.ne_of_gt hlS⟩
        have hval : ∀ (i : Nat) (v : Value), items[i]? = some v → ∃ k t, ns[i]? = some k ∧ v = .str k t := fun i v hv => by
          have hi : i < ns.length := by rw [← hisz]; exact (Array.getElem?_eq_some_iff.mp hv).1
          obtain ⟨y, t, e, hy⟩ := PyProof.Rows.StrsAre.item hit i v (by rw [Array.getElem?_toList]; exact hv)
          exact ⟨y, t, hy, e⟩
        refine set_update_texts ((Walks.list hh3 _ l hneI items).toS) s.heap.objs.size
          hSf ns hisz hb hval (items.size - 0) 0 _ (by omega) (Nat.zero_le _)
          ⟨⟨_, Heap.get?_push_size _ rfl, rfl, rfl⟩, (hl1.push _)⟩ ?hS0 ?hR
        case hS0 =>
          have hget : ((s.heap.push { cls := .type "set", dict := none, data := .set #[] 0 (.fresh 0 0 (!w.params.followText "set-order")) }).push { cls := .type "list_iterator", data := .fields #[.ref l, .int 0 0] }).get? s.heap.objs.size
              = some { cls := .type "set", dict := none, data := .set #[] 0 (.fresh 0 0 (!w.params.followText "set-order")) } := Heap.get?_push_of_some _ hS
          exact ⟨0, Nat.le_refl 0, setS_new_at hget⟩
        case hR =>
          intro s' c' hm hc' hS'
          obtain ⟨h', g2, d', tk', os'⟩ := s'
          have eg : g2 = s.gens := hm.gens
          have ed : d' = s.drawn := hm.drawn
          have eo : os' = s.os := hm.os
          subst eg; subst ed; subst eo
          show wpAny _ _ _ _ _ _
          refine wpAny_pure ?_
          show wpAny _ _ (ret Value.none) _ _ _
          rw [hisz] at hc'
          refine wpAny_pure ⟨rfl, h', tk', c', rfl, hS', hc', fun b o e => ?_⟩
          have hb0 : b < s.heap.objs.size := Heap.lt_size e
          have hb1 : b ≠ s.heap.objs.size := Nat.ne_of_lt hb0
          have hb2 : b ≠ (s.heap.push { cls := .type "set", dict := none, data := .set #[] 0 (.fresh 0 0 (!w.params.followText "set-order")) }).objs.size := by
            rw [Heap.size_push]; exact Nat.ne_of_lt (Nat.lt_succ_of_lt hb0)
          exact hm.heap b o (by simp only [List.mem_cons, List.mem_singleton, List.not_mem_nil, or_false, not_or]; exact ⟨hb1, hb2⟩) (Heap.get?_push_of_some _ (Heap.get?_push_of_some _ e))

      · cases r₂ with
        | error e => exact hr₂
        | ok fl₂ =>
          cases fl₂ with
          | ret r =>
            obtain ⟨rfl, h', tk, c', rfl, hS', hc', hk'⟩ := hr₂
            repeat (any_goals (first | assumption | wp_step))
            exact h _ _ _ hS' hc' hk'
          | _ => exact hr₂.elim
    | _ => exact hr.elim

end

section
variable {P : Program} {w : World} {A : Around} {E : Value → Shared → Prop} {s : Shared} {a : Addr}
theorem sorted_setS {S : Str → Bool} {n : Nat} {Q : Value → Shared → Prop} (R : SetS w s.heap a S n) (hh : A.handled = none) (h64 : n < 64)
    (hQ : ∀ s' p (out : Array Value) (c : Nat) (ns : List Str), (∀ b o, s.heap.get? b = some o → s'.heap.get? b = some o) → s'.gens = s.gens → s'.os = s.os → s.heap.objs.size ≤ p →
      s'.heap.get? p = some (seqObj "list" out c) → StrsAre out.toList ns → sortedS ns = true → ns.Nodup → (∀ k, k ∈ ns ↔ S k = true) → ns.length = n → Q (.ref p) s') :
    wpAny (model P w) A (call (.builtin "sorted") [.ref a]) Q E s := by
  obtain ⟨o, es, ep, t, ho, hex, hd, g, nd, hm, hb, hf, hn, hr, hl⟩ := R
  refine Calls.call_function_entry kind_sorted plain_sorted entry_sorted (args_sorted1 _) ?_
  unfold Builtin.«sorted»
  refine wpAny_bind (m := checkCount "sorted" 1 1 _) (wpAny_pure ?_)
  refine wpAny_bind (collect_set (A := A.in1) hh ⟨o, ho, hex.1, hd⟩ hf hb hr hl fun s1 vs k1 hz g1 o1 pm => ?_)
  have hvl : vs.length = n := by rw [pm.length_eq, List.length_map, Array.length_toList]; exact hn
  have hI : StrsAre vs (vs.map strOf) := strsAre_map vs fun v hv => by
    obtain ⟨e, he, q⟩ := List.mem_map.mp (pm.mem_iff.mp hv)
    obtain ⟨k, tk, h1, _⟩ := g e he
    exact ⟨k, tk, by rw [← q]; exact h1⟩
  have pk : (vs.map strOf).Perm (es.toList.map keyS) := by
    have q := pm.map strOf
    rw [List.map_map] at q
    have e : es.toList.map (strOf ∘ fun x => x.2) = es.toList.map keyS := List.map_congr_left fun x hx => by
      obtain ⟨k, tk, h1, _⟩ := g x hx
      show strOf x.2 = keyS x
      unfold keyS
      rw [h1]; rfl
    rw [e] at q
    exact q
  refine wpAny_bind (wpAny_newList ?_ (by rw [hvl, sizeLine_eq]; omega))
  have hoL : (s1.heap.push (seqObj "list" vs.toArray 0)).get? s1.heap.objs.size = some (seqObj "list" vs.toArray 0) := Heap.get?_push_size _ rfl
  refine wpAny_bind (wpAny_holding (wpAny_call_entry slot_list_sort ⟨_, hoL, rfl⟩ entry_list_sort (list_sort_treeK strKind_oneLt hoL hI.keysOf (fun v₁ v₂ rest e => keyKind_strs (by rw [← e]; exact hI)) (by rw [hvl]; exact h64) fun st' hp hs => ⟨_, rfl, ?_⟩) (args_list_sort _)))
  obtain ⟨ns', a1, a2, a3⟩ := sorted_out_str hI hp hs
  obtain ⟨c, hc⟩ := sortedHeap_at (vs := vs) (out := (arrOf st').map (·.2)) hoL
  have pn : ns'.Perm (es.toList.map keyS) := a2.trans pk
  refine wpAny_pure ⟨_, rfl, hQ _ s1.heap.objs.size _ c ns' (fun b u e => ?_) g1 o1 hz hc a1 a3 (pn.nodup_iff.mpr nd) (fun k => by rw [pn.mem_iff, ← hm k]) ?_⟩
  · have q := k1 b u e
    have hlt := Heap.lt_size q
    show (sortedHeap (s1.heap.push (seqObj "list" vs.toArray 0)) s1.heap.objs.size vs _).get? b = some u
    rw [sortedHeap_old (Nat.ne_of_lt hlt) (by rw [size_push']; exact Nat.lt_succ_of_lt hlt)]
    exact Heap.get?_push_of_some _ q
  · rw [pn.length_eq, List.length_map, Array.length_toList]; exact hn
end
/-! ### as rules -/
def SetSO (w : World) (a : Addr) (S : Str → Bool) (n : Nat) : HO := .ext fun h => SetS w h a S n
theorem setSO_new {w : World} {P : Program} {H : Hp} {h : Heap} {a : Addr} {S : Str → Bool} {n : Nat} (R : SetS w h a S n) : ObjOk P w H h a (SetSO w a S n) := by
  have ⟨o, _, _, _, ho, _⟩ := R
  exact ⟨R, ⟨o, ho⟩, fun h1 h2 p k => SetS.at p k⟩
section
variable {X : Cx}
def rSetOfS (K : PySem.W.Frag) (w : World) : List V → Hp → VK → Prop := fun xs H Q => ∃ (l : Addr) (ns : List Str), xs = [V.ref l] ∧ SqL K H l (ns.map V.str) ∧ ns.length ≤ 1000 ∧
  ∀ a c, H a = none → c ≤ ns.length → Q (.ref a) (upd H a (SetSO w a (fun j => decide (j ∈ ns)) c))
theorem cr_setOfS {K : PySem.W.Frag} {w : World} (hc : X.calm = true) (hK : X.K = K := by rfl) (hw : X.w = w := by rfl) : CallR X (.type "set") (rSetOfS K w) := by
  subst hK hw
  intro pins s σ H xs us Q I r h
  obtain ⟨l, ns, rfl, hl, hf, q⟩ := h
  rw [Vals.ref1 r]
  obtain ⟨its, rv, pl, hz⟩ := I.list hl
  have hn : H s.heap.objs.size = none := I.hok.fresh (Nat.le_refl _)
  refine call_set_texts (P := X.prog) (w := X.w) ns (I.ok.hd hc) pl.isList (by simpa using rv.strs) (by unfold scanBound; omega) fun h' tk c R hcl k => ?_
  exact ⟨.ref s.heap.objs.size, upd H s.heap.objs.size (SetSO X.w s.heap.objs.size (fun j => decide (j ∈ ns)) c), I.laid (t' := tk) k (Nat.le_refl _) (setSO_new R), rfl, q _ c hn hcl⟩
def rSortedSS (w : World) : List V → Hp → VK → Prop := fun vs H Q => ∃ (a : Addr) (S : Str → Bool) (n : Nat), vs = [V.ref a] ∧ H a = some (SetSO w a S n) ∧ n < 64 ∧
  ∀ (ns : List Str) (p : Addr), sortedS ns = true → ns.Nodup → (∀ k : Str, k ∈ ns ↔ S k = true) → ns.length = n → H p = none → Q (.ref p) (upd H p (.lst (ns.map V.str)))
theorem cr_sortedSS {w : World} (hc : X.calm = true) (hw : X.w = w := by rfl) : CallR X (.builtin "sorted") (rSortedSS w) := by
  subst hw
  intro pins s σ H vs us Q I r h
  obtain ⟨a, S, n, rfl, ha, h64, q⟩ := h
  have R : SetS X.w s.heap a S n := (I.hok a _ ha).1
  rw [Vals.ref1 r]
  refine sorted_setS R (I.ok.hd hc) h64 fun s' p out c ns k g o hp hg hi hs hd hm hl => ?_
  have hlen : (ns.map V.str).length ≤ sizeLine := by rw [List.length_map, hl, sizeLine_eq]; omega
  have hn : H p = none := I.hok.fresh hp
  have J : Inv X pins σ (upd H p (.lst (ns.map V.str))) { s with heap := s'.heap, gens := s'.gens, drawn := s'.drawn, toks := s'.toks } :=
    I.call (ch := []) (Un.laid k hp hn) (I.hok.laid k hp ⟨hlen, out.toList, c, vals_of_strs hi, hg⟩) (by rw [g]; exact I.bare) (fun _ z => nomatch z)
  have e : s' = { s with heap := s'.heap, gens := s'.gens, drawn := s'.drawn, toks := s'.toks } := by
    cases s'
    cases s
    cases o
    rfl
  rw [e]
  exact ⟨.ref p, _, J, rfl, q ns p hs hd hm hl hn⟩
end
/-! ### sorted of what comes, with sets of texts -/
def uSortedX (K : PySem.W.Frag) (w : World) : List V → Hp → VK → Prop := fun vs H Q => uSorted K vs H Q ∨ rSortedSS w vs H Q
theorem cr_usortedX {X : Cx} {K : PySem.W.Frag} {w : World} (hc : X.calm = true) (hK : X.K = K := by rfl) (hw : X.w = w := by rfl) : CallR X (.builtin "sorted") (uSortedX K w) := by
  subst hK hw
  exact CallR.or cr_usorted (cr_sortedSS hc)
section
variable {H : Hp} {Q : VK} {K : PySem.W.Frag} {w : World} {a : Addr}
theorem v_set_of {ns : List Str} (h : SqL K H a (ns.map V.str)) (hl : ns.length ≤ 1000) (q : ∀ p c H', H p = none → Chg [] H H' → c ≤ ns.length → H' p = some (SetSO w p (fun j => decide (j ∈ ns)) c) → Q (.ref p) H') : rSetOfS K w [.ref a] H Q :=
  ⟨a, ns, rfl, h, hl, fun p c hp hc => q p c _ hp (.new hp) hc upd_same⟩
theorem v_sorted_set {S : Str → Bool} {n : Nat} (h : H a = some (SetSO w a S n)) (hn : n < 64) (q : ∀ (ns : List Str) p H', sortedS ns = true → ns.Nodup → (∀ k, k ∈ ns ↔ S k = true) → ns.length = n → H p = none → Chg [] H H' → H' p = some (.lst (ns.map V.str)) → Q (.ref p) H') : uSortedX K w [.ref a] H Q :=
  .inr ⟨a, S, n, rfl, h, hn, fun ns p h1 h2 h3 h4 hp => q ns p _ h1 h2 h3 h4 hp (.new hp) upd_same⟩
theorem v_sorted_strs {xs : List Str} (h : SqL K H a (xs.map V.str)) (hn : xs.length < 64) (q : ∀ (ys : List Str) p H', ys.Perm xs → sortedS ys = true → H p = none → Chg [] H H' → H' p = some (.lst (ys.map V.str)) → Q (.ref p) H') : uSortedX K w [.ref a] H Q :=
  .inl (.inl (.inr ⟨a, xs, rfl, h, hn, fun ys p h1 h2 hp => q ys p _ h1 h2 hp (.new hp) upd_same⟩))
end
/-! two sorted lists of the same texts, each once, are one -/
theorem ltS_asymm {a b : Str} (h : ltCps a.cps.toList b.cps.toList = true) : ltCps b.cps.toList a.cps.toList = false := by
  rw [ltCps_eq] at *
  rw [decide_eq_true_eq] at h
  exact decide_eq_false (List.lt_asymm h)
theorem ltS_total {a b : Str} (h1 : ltCps a.cps.toList b.cps.toList = false) (h2 : ltCps b.cps.toList a.cps.toList = false) : a = b := by
  rw [ltCps_eq] at *
  have h1 := of_decide_eq_false h1
  have h2 := of_decide_eq_false h2
  have e : a.cps.toList = b.cps.toList := List.le_antisymm (List.not_lt.mp h2) (List.not_lt.mp h1)
  cases a; cases b
  simp only [Str.mk.injEq]
  exact Array.toList_inj.mp e
theorem pairwise_of_sortedS : ∀ {l : List Str}, sortedS l = true → l.Pairwise (fun a b => ltCps b.cps.toList a.cps.toList = false)
  | [], _ => .nil
  | [x], _ => by simp
  | x :: y :: l, h => by
    have h : (!ltCps y.cps.toList x.cps.toList && risingS y l) = true := h
    rw [Bool.and_eq_true] at h
    have ih := pairwise_of_sortedS (l := y :: l) h.2
    refine List.Pairwise.cons ?_ ih
    have h1 : ltCps y.cps.toList x.cps.toList = false := by simpa using h.1
    intro b hb
    rcases List.mem_cons.mp hb with rfl | hb
    · exact h1
    · have h2 := (List.pairwise_cons.mp ih).1 b hb
      rw [ltCps_eq] at *
      have h1 := List.not_lt.mp (of_decide_eq_false h1)
      have h2 := List.not_lt.mp (of_decide_eq_false h2)
      exact decide_eq_false (List.not_lt.mpr (List.le_trans h1 h2))
theorem sortedS_eq : ∀ {l m : List Str}, sortedS l = true → sortedS m = true → l.Nodup → m.Nodup → (∀ z, z ∈ l ↔ z ∈ m) → l = m := by
  intro l m h1 h2 n1 n2 h
  have p : l.Perm m := (List.perm_ext_iff_of_nodup n1 n2).mpr h
  exact p.eq_of_pairwise (fun a b _ _ x y => ltS_total y x) (pairwise_of_sortedS h1) (pairwise_of_sortedS h2)
end RT

namespace RT
open PySem PySem.Spec PyProof.Rows L2
/-! ## 19. programs: bounds, slices, rows by their numbers -/
/-- a name: one to six small letters -/
def isNm (z : Str) : Bool := decide (1 ≤ z.length) && decide (z.length ≤ 6) && z.cps.toList.all fun c => decide (97 ≤ c) && decide (c ≤ 122)
def fcnt (fs : List (Str × List Str × List Str × List Rw)) : Nat := (fs.map fun f => Rw.cnts f.2.2.2 + 1).sum
/-- all names short -/
def Nms.nm (N : Nms) : Prop := (∀ z, N.B z → isNm z = true) ∧ (∀ z, N.L z → isNm z = true) ∧ (∀ z n, N.F z n → isNm z = true) ∧ (∀ z, N.Dr z → isNm z = true)
structure PgOk (p : Pg) : Prop where
  lb : p.bx.length ≤ 3
  ll : p.ls.length ≤ 3
  lf : p.fs.length ≤ 4
  nb : ∀ b ∈ p.bx, isNm b.1 = true ∧ 0 ≤ b.2 ∧ b.2 < 1000000
  nl : ∀ l ∈ p.ls, isNm l.1 = true ∧ l.2.length ≤ 12 ∧ ∀ i ∈ l.2, 0 ≤ i ∧ i < 1000000
  nf : ∀ f ∈ p.fs, isNm f.1 = true ∧ f.2.1.length ≤ 3 ∧ f.2.2.1.length ≤ 3 ∧ (∀ z ∈ f.2.1, isNm z = true) ∧ (∀ z ∈ f.2.2.1, isNm z = true) ∧ (∃ N : Nms, N.nm ∧ Rw.oks N f.2.2.2) ∧ Rw.dpts f.2.2.2 ≤ 5
  ro : (∃ N : Nms, N.nm ∧ Rw.oks N p.rows) ∧ Rw.dpts p.rows ≤ 5
  cn : fcnt p.fs + Rw.cnts p.rows ≤ 62
  nd : (p.bx.map (·.1) ++ p.ls.map (·.1)).Nodup
/-! slices of texts -/
theorem cutV_map {α : Type} (f : α → V) (zs : List α) (lo hi : Option Int) : cutV (zs.map f) lo hi = (cutL zs lo hi).map f := by
  unfold cutV cutL
  rw [List.length_map, List.map_take, List.map_drop]
theorem cutL_mem {α : Type} {zs : List α} {lo hi : Option Int} {z : α} (h : z ∈ cutL zs lo hi) : z ∈ zs := List.mem_of_mem_drop (List.mem_of_mem_take h)
theorem cutL_len {α : Type} (zs : List α) (lo hi : Option Int) : (cutL zs lo hi).length ≤ zs.length := by
  unfold cutL
  rw [List.length_take, List.length_drop]; omega
theorem cutL_hi {α : Type} (zs : List α) {k : Int} (h : 0 ≤ k) : ((cutL zs none (some k)).length : Int) ≤ k := by
  unfold cutL
  obtain ⟨n, rfl⟩ := Int.eq_ofNat_of_zero_le h
  rw [List.length_take, List.length_drop, HT.sIx_none, HT.sIx_nat]
  show ((min (min n zs.length - 0) (zs.length - 0) : Nat) : Int) ≤ _
  omega
section
variable {H : Hp} {Q : VK} {K : PySem.W.Frag}
theorem v_sl_strs {a : Addr} {zs : List Str} {lo hi : Option Int} (h : SqL K H a (zs.map V.str)) (q : ∀ p H', H p = none → Chg [] H H' → H' p = some (.lst ((cutL zs lo hi).map V.str)) → Q (.ref p) H') : uSl K (.ref a) lo hi H Q :=
  v_sl_l h fun p H' n c e => q p H' n c (by rw [cutV_map] at e; exact e)
theorem v_add_strs {a b : Addr} {xs ys : List Str} (h1 : H a = some (.lst (xs.map V.str))) (h2 : H b = some (.lst (ys.map V.str))) (hl : xs.length + ys.length ≤ 10000)
    (q : ∀ p H', H p = none → Chg [] H H' → H' p = some (.lst ((xs ++ ys).map V.str)) → Q (.ref p) H') : uAdd K (.ref a) (.ref b) H Q :=
  v_add_ll h1 h2 ((by rw [sizeLine_eq]; have := hl; simp only [List.length_map]; omega)) fun p H' n c e => q p H' n c (by rw [List.map_append]; exact e)
/-- one of a few numbers -/
theorem v_ix_ints {a : Addr} {ns : List Int} {i : Int} (h : H a = some (.lst (ns.map V.int))) (h0 : 0 ≤ i) (h1 : i < ns.length) (q : ∀ m, m ∈ ns → Q (.int m) H) : uIx K (.ref a) (.int i) H Q :=
  v_ix_lany (SqL.of h) h0 (by rw [List.length_map]; exact h1) fun v hv => by
    obtain ⟨m, hm, rfl⟩ := List.mem_map.mp (List.mem_of_getElem? hv)
    exact q m hm
end
theorem cutL_pre {α : Type} (zs : List α) {m : Int} (h : 0 ≤ m) : cutL zs none (some m) = zs.take (min m.toNat zs.length) := by
  obtain ⟨k, rfl⟩ := Int.eq_ofNat_of_zero_le h
  unfold cutL
  rw [HT.sIx_none, HT.sIx_nat]
  simp
theorem cutL_post {α : Type} (zs : List α) (k : Nat) : cutL zs (some (k : Int)) none = zs.drop k := by
  unfold cutL
  rw [HT.sIx_none, HT.sIx_nat]
  by_cases h : k ≤ zs.length
  · rw [Nat.min_eq_left h]
    exact List.take_of_length_le (by rw [List.length_drop]; exact Nat.le_refl _)
  · rw [Nat.min_eq_right (by omega), List.drop_of_length_le (Nat.le_refl _), List.drop_of_length_le (by omega)]
    simp
theorem nd_parts {zs : List Str} (hn : zs.Nodup) {m1 m2 : Int} (h0 : 0 ≤ m1) (h1 : m1 ≤ 3) (h2 : 0 ≤ m2) : (cutL zs none (some m1) ++ cutL (cutL zs (some 3) none) none (some m2)).Nodup := by
  rw [cutL_pre _ h0, show (some (3 : Int)) = some ((3 : Nat) : Int) from rfl, cutL_post, cutL_pre _ h2]
  have s1 : (zs.take (min m1.toNat zs.length)).Sublist (zs.take 3) := by
    rw [show zs.take (min m1.toNat zs.length) = (zs.take 3).take (min m1.toNat zs.length) by rw [List.take_take]; congr 1; omega]
    exact List.take_sublist _ _
  have s2 := (s1.append (List.take_sublist (min m2.toNat (zs.drop 3).length) (zs.drop 3)))
  rw [List.take_append_drop] at s2
  exact s2.nodup hn
theorem fcnt_app (a b : List (Str × List Str × List Str × List Rw)) : fcnt (a ++ b) = fcnt a + fcnt b := by simp [fcnt]
/-! ### rows by their numbers -/
abbrev En := Str ⊕ Rw
def dE : En → D
  | .inl n => .tup [.str "def", .str n]
  | .inr r => r.d
abbrev Tr := Int × En × Int
def tD (t : Tr) : D := .tup [.int t.1, dE t.2.1, .int t.2.2]
mutual
def numR : Nat → Int → Rw → List Tr
  | n, a, .ife v x y => ((n : Int), .inr (.ife v x y), a) :: (numRs (n + 1) n x ++ numRs (n + 1 + Rw.cnts x) n y)
  | n, a, .whl v x => ((n : Int), .inr (.whl v x), a) :: numRs (n + 1) n x
  | n, a, .tr x b y => ((n : Int), .inr (.tr x b y), a) :: (numRs (n + 1) n x ++ numRs (n + 1 + Rw.cnts x) n y)
  | n, a, r => [((n : Int), .inr r, a)]
def numRs : Nat → Int → List Rw → List Tr
  | _, _, [] => []
  | n, a, r :: l => numR n a r ++ numRs (n + r.cnt) a l
end
def Rw.ins : Rw → List (List Rw)
  | .ife _ x y => [x, y]
  | .whl _ x => [x]
  | .tr x _ y => [x, y]
  | _ => []
def Rw.inl (r : Rw) : List Rw := r.ins.flatten
theorem numRs_app : ∀ (n : Nat) (a : Int) (l m : List Rw), numRs n a (l ++ m) = numRs n a l ++ numRs (n + Rw.cnts l) a m
  | n, a, [], m => by simp [numRs, Rw.cnts]
  | n, a, r :: l, m => by
    rw [List.cons_append, numRs, numRs, numRs_app (n + r.cnt) a l m, Rw.cnts, List.append_assoc, Nat.add_assoc]
theorem Rw.cnt_inl (r : Rw) : r.cnt = Rw.cnts r.inl + 1 := by
  cases r <;> simp [Rw.cnt, Rw.inl, Rw.ins, Rw.cnts, Rw.cnts_app]
theorem numR_eq (n : Nat) (a : Int) (r : Rw) : numR n a r = ((n : Int), .inr r, a) :: numRs (n + 1) n r.inl := by
  cases r <;> simp [numR, Rw.inl, Rw.ins, numRs, numRs_app]
theorem numRs_cons (n : Nat) (a : Int) (r : Rw) (l : List Rw) : numRs n a (r :: l) = numR n a r ++ numRs (n + r.cnt) a l := by rw [numRs]
mutual
theorem len_numR : ∀ (r : Rw) (n : Nat) (a : Int), (numR n a r).length = r.cnt
  | .ife v x y, n, a => by simp [numR, Rw.cnt, len_numRs x, len_numRs y]
  | .whl v x, n, a => by simp [numR, Rw.cnt, len_numRs x]
  | .tr x b y, n, a => by simp [numR, Rw.cnt, len_numRs x, len_numRs y]
  | .set .., n, a => rfl
  | .push .., n, a => rfl
  | .pop .., n, a => rfl
  | .put .., n, a => rfl
  | .ask .., n, a => rfl
  | .tell .., n, a => rfl
  | .fail .., n, a => rfl
  | .call .., n, a => rfl
  | .ret .., n, a => rfl
theorem len_numRs : ∀ (l : List Rw) (n : Nat) (a : Int), (numRs n a l).length = Rw.cnts l
  | [], _, _ => by simp [numRs, Rw.cnts]
  | r :: l, n, a => by rw [numRs, List.length_append, len_numR r, len_numRs l, Rw.cnts]
end
theorem Rw.ins_dpts {r : Rw} {s : List Rw} (h : s ∈ r.ins) : Rw.dpts s + 1 ≤ r.dpt := by
  cases r <;> simp only [Rw.ins, List.mem_cons, List.not_mem_nil, or_false] at h
  · rcases h with rfl | rfl
    all_goals simp only [Rw.dpt]; omega
  · subst h; simp only [Rw.dpt]; omega
  · rcases h with rfl | rfl
    all_goals simp only [Rw.dpt]; omega
abbrev Fn := Str × List Str × List Str × List Rw
def fnTr : Nat → List Fn → List Tr
  | _, [] => []
  | n, f :: fs => ((n : Int), .inl f.1, -1) :: (numRs (n + 1) n f.2.2.2 ++ fnTr (n + 1 + Rw.cnts f.2.2.2) fs)
def trs (p : Pg) : List Tr := fnTr 0 p.fs ++ numRs (fcnt p.fs) (-1) p.rows
theorem fcnt_cons (f : Fn) (fs : List Fn) : fcnt (f :: fs) = Rw.cnts f.2.2.2 + 1 + fcnt fs := by simp [fcnt]
theorem fnTr_app : ∀ (n : Nat) (a b : List Fn), fnTr n (a ++ b) = fnTr n a ++ fnTr (n + fcnt a) b
  | n, [], b => by simp [fnTr, fcnt]
  | n, f :: a, b => by
    rw [List.cons_append, fnTr, fnTr, fnTr_app (n + 1 + Rw.cnts f.2.2.2) a b, fcnt_cons, List.cons_append, List.append_assoc]
    congr 4; omega
theorem len_fnTr : ∀ (n : Nat) (a : List Fn), (fnTr n a).length = fcnt a
  | n, [] => by simp [fnTr, fcnt]
  | n, f :: a => by
    rw [fnTr, List.length_cons, List.length_append, len_numRs, len_fnTr (n + 1 + Rw.cnts f.2.2.2) a, fcnt_cons]; omega
theorem len_trs (p : Pg) : (trs p).length = fcnt p.fs + Rw.cnts p.rows := by rw [trs, List.length_append, len_fnTr, len_numRs]
def askE : Tr → Option Str
  | (_, .inr (.ask _ d), _) => some d
  | _ => none
theorem En.view (e : En) : (∃ x d, e = .inr (.ask x d)) ∨ ((∀ n a, askE (n, e, a) = none) ∧ ∃ (w : String) (ds : List D), dE e = .tup (.str w :: ds) ∧ w ≠ "ask") := by
  rcases e with n | r
  · exact .inr ⟨fun _ _ => rfl, "def", _, rfl, by decide⟩
  · cases r with
    | ask x d => exact .inl ⟨x, d, rfl⟩
    | set x v => exact .inr ⟨fun _ _ => rfl, "set", _, rfl, by decide⟩
    | push x v => exact .inr ⟨fun _ _ => rfl, "push", _, rfl, by decide⟩
    | pop x v => exact .inr ⟨fun _ _ => rfl, "pop", _, rfl, by decide⟩
    | put x v u => exact .inr ⟨fun _ _ => rfl, "put", _, rfl, by decide⟩
    | tell v => exact .inr ⟨fun _ _ => rfl, "tell", _, rfl, by decide⟩
    | fail v => exact .inr ⟨fun _ _ => rfl, "fail", _, rfl, by decide⟩
    | call x f vs => exact .inr ⟨fun _ _ => rfl, "call", _, rfl, by decide⟩
    | ret v => exact .inr ⟨fun _ _ => rfl, "return", _, rfl, by decide⟩
    | ife v a b => exact .inr ⟨fun _ _ => rfl, "if", _, by rw [dE, Rw.d], by decide⟩
    | whl v a => exact .inr ⟨fun _ _ => rfl, "while", _, by rw [dE, Rw.d], by decide⟩
    | tr a x b => exact .inr ⟨fun _ _ => rfl, "try", _, by rw [dE, Rw.d], by decide⟩
def doorsL (p : Pg) : List Str := (trs p).filterMap askE
def sp_within : Sp := fun vs H Q _ => ∃ v r, vs = [v] ∧ Rp H v (Rw.d r) ∧ ∀ (p : Addr) (xs : List V) H', H p = none → Chg [] H H' → H' p = some (.lst xs) → RpA H' xs (r.ins.map fun s => .tup (Rw.ds s)) → Q (.ref p) H'
def sp_put (n : Nat) : Sp := fun vs H Q _ => ∃ v ar fo rs xs ds, vs = [v, .int ar, .ref fo] ∧ Rp H v (.tup (Rw.ds rs)) ∧ Rw.dpts rs < n ∧ H fo = some (.lst xs) ∧ RpA H xs ds ∧ ds.length + Rw.cnts rs ≤ 1000 ∧
  ∀ (ys : List V) H', Chg [fo] H H' → H' fo = some (.lst ys) → RpA H' ys (ds ++ (numRs ds.length ar rs).map tD) → Q .non H'
structure PgN (p : Pg) : Prop where
  d1 : ∀ f ∈ p.fs, Rw.dpts f.2.2.2 ≤ 5
  d2 : Rw.dpts p.rows ≤ 5
  cn : fcnt p.fs + Rw.cnts p.rows ≤ 62
def sp_rowsof : Sp := fun vs H Q _ => ∃ v p, vs = [v] ∧ Rp H v p.d ∧ PgN p ∧ ∀ (fo : Addr) (xs : List V) H', H fo = none → Chg [] H H' → H' fo = some (.lst xs) → RpA H' xs ((trs p).map tD) → Q (.ref fo) H'
def sp_doorsof : Sp := fun vs H Q _ => ∃ v p, vs = [v] ∧ Rp H v p.d ∧ PgN p ∧ ∀ (zs : List Str) (q : Addr) H', sortedS zs = true → zs.Nodup → (∀ k, k ∈ zs ↔ k ∈ doorsL p) → (∀ k ∈ zs, PyData.strOk k = true) → zs.length ≤ 62 → H q = none → Chg [] H H' → H' q = some (.lst (zs.map V.str)) → Q (.ref q) H'
theorem Rw.hd (r : Rw) : ∃ (w : String) (ds : List D), Rw.d r = .tup (.str w :: ds) ∧ ((w = "if" ∧ ∃ v x y, r = .ife v x y) ∨ (w = "while" ∧ ∃ v x, r = .whl v x) ∨ (w = "try" ∧ ∃ x b y, r = .tr x b y) ∨ (w ≠ "if" ∧ w ≠ "while" ∧ w ≠ "try" ∧ r.ins = [])) := by
  cases r with
  | set x v => exact ⟨"set", _, rfl, by simp [Rw.ins]⟩
  | push x v => exact ⟨"push", _, rfl, by simp [Rw.ins]⟩
  | pop x v => exact ⟨"pop", _, rfl, by simp [Rw.ins]⟩
  | put x v u => exact ⟨"put", _, rfl, by simp [Rw.ins]⟩
  | ask x v => exact ⟨"ask", _, rfl, by simp [Rw.ins]⟩
  | tell v => exact ⟨"tell", _, rfl, by simp [Rw.ins]⟩
  | fail v => exact ⟨"fail", _, rfl, by simp [Rw.ins]⟩
  | call x f vs => exact ⟨"call", _, rfl, by simp [Rw.ins]⟩
  | ret v => exact ⟨"return", _, rfl, by simp [Rw.ins]⟩
  | ife v a b => exact ⟨"if", _, by rw [Rw.d], .inl ⟨rfl, _, _, _, rfl⟩⟩
  | whl v a => exact ⟨"while", _, by rw [Rw.d], .inr (.inl ⟨rfl, _, _, rfl⟩)⟩
  | tr a x b => exact ⟨"try", _, by rw [Rw.d], .inr (.inr (.inl ⟨rfl, _, _, _, rfl⟩))⟩
theorem RpA.strH {H : Hp} {w : Str} {ds : List D} {xs : List V} (h : RpA H xs (.str w :: ds)) : ∃ ys, xs = .str w :: ys ∧ RpA H ys ds ∧ PyData.strOk w = true := by
  cases h with | cons r t => cases r with | str hz => exact ⟨_, rfl, t, hz⟩
theorem RpA.intH {H : Hp} {w : Int} {ds : List D} {xs : List V} (h : RpA H xs (.int w :: ds)) : ∃ ys, xs = .int w :: ys ∧ RpA H ys ds := by
  cases h with | cons r t => cases r; exact ⟨_, rfl, t⟩
theorem RpA.consH {H : Hp} {d : D} {ds : List D} {xs : List V} (h : RpA H xs (d :: ds)) : ∃ x ys, xs = x :: ys ∧ Rp H x d ∧ RpA H ys ds := by
  cases h with | cons r t => exact ⟨_, _, rfl, r, t⟩
theorem atI_0 {α : Type} (x : α) (xs : List α) : atI (x :: xs) 0 = some x := atI_nat (j := 0) (by simp)
theorem RpA.nilH {H : Hp} {xs : List V} (h : RpA H xs []) : xs = [] := by cases h; rfl
/-! a comprehension whose law speaks of its list -/
section
variable {g : TG} {tb : TS} {n : L2.St → Hp → Prop} {r : VK} {b c : L2.St → Hp → Prop} {σ : L2.St} {H : Hp} {K : PySem.W.Frag} {te : TE} {ta : TA} {Q : VK}
theorem v_lc_listD {a : Addr} {xs : List V} {tt : TT} {vs : List Nat} (S : List Addr) (Pv : Addr → Nat → List V → Hp → Prop) (hS : ∀ b ∈ S, H b ≠ none) (hl : ∀ H', Chg S H H' → SqL K H' a xs)
    (h0 : ∀ D H', H D = none → Chg [] H H' → H' D = some (.lst []) → Pv D 0 [] H')
    (hs : ∀ D i x acc H1, xs[i]? = some x → H D = none → D ∉ S → Chg S H H1 → H1 D = some (.lst acc) → Pv D i acc H1 → g x (wipe σ vs) H1 fun σ2 H2 => wipe σ2 vs = wipe σ vs ∧ tt σ2 H2 fun k H3 =>
      if k = true then te σ2 H3 fun y H4 => LcA D (LcI S H D (Pv D) (i + 1)) y H4 else LcI S H D (Pv D) (i + 1) H3)
    (hd : ∀ D acc H', Chg S H H' → H D = none → H' D = some (.lst acc) → Pv D xs.length acc H' → Q (.ref D) H') : LcQ (Itl K a) g tt te vs σ H Q := by
  intro D hD
  have dS : D ∉ S := fun m => hS D m hD
  refine lc_list (xs := xs) (LcI S H D (Pv D)) ⟨[], (Chg.new hD).of0, upd_same, h0 D _ hD (.new hD) upd_same⟩ (fun i H1 _ ⟨_, c, _⟩ => hl _ c) (fun i x H1 hx ⟨acc, c, e, p⟩ => hs D i x acc H1 hx hD dS c e p) (fun H1 ⟨acc, c, e, p⟩ => hd D acc H1 c hD e p)
theorem v_lc_tupD {a : Addr} {xs : List V} {tt : TT} {vs : List Nat} (S : List Addr) (Pv : Addr → Nat → List V → Hp → Prop) (hS : ∀ b ∈ S, H b ≠ none) (hl : ∀ H', Chg S H H' → SqT K H' a xs)
    (h0 : ∀ D H', H D = none → Chg [] H H' → H' D = some (.lst []) → Pv D 0 [] H')
    (hs : ∀ D i x acc H1, xs[i]? = some x → H D = none → D ∉ S → Chg S H H1 → H1 D = some (.lst acc) → Pv D i acc H1 → g x (wipe σ vs) H1 fun σ2 H2 => wipe σ2 vs = wipe σ vs ∧ tt σ2 H2 fun k H3 =>
      if k = true then te σ2 H3 fun y H4 => LcA D (LcI S H D (Pv D) (i + 1)) y H4 else LcI S H D (Pv D) (i + 1) H3)
    (hd : ∀ D acc H', Chg S H H' → H D = none → H' D = some (.lst acc) → Pv D xs.length acc H' → Q (.ref D) H') : LcQ (Itt K a) g tt te vs σ H Q := by
  intro D hD
  have dS : D ∉ S := fun m => hS D m hD
  refine lc_tup (xs := xs) (LcI S H D (Pv D)) ⟨[], (Chg.new hD).of0, upd_same, h0 D _ hD (.new hD) upd_same⟩ (fun i H1 _ ⟨_, c, _⟩ => hl _ c) (fun i x H1 hx ⟨acc, c, e, p⟩ => hs D i x acc H1 hx hD dS c e p) (fun H1 ⟨acc, c, e, p⟩ => hd D acc H1 c hD e p)
end
theorem pg_tupU {X : Cx} {K : PySem.W.Frag} {es : List Expr} {k : Nat} {pos : Pos} {t : TGs} {n : Nat} (hc : X.calm = true) (h : PGs X es t) (hK : X.K = K := by rfl)
    (hn : (assignEach es X.env).length = n := by rfl) (hst : (assignEach es X.env).findIdx? (·.1) = none := by rfl) : PG X (.Tuple es k pos) (gTup K n t) := by
  subst hK
  exact pg_tup hc h hn hst
theorem map_get {α β : Type} {f : α → β} {l : List α} {i : Nat} {y : β} (h : (l.map f)[i]? = some y) : ∃ x, l[i]? = some x ∧ y = f x := by
  rw [List.getElem?_map] at h
  cases e : l[i]? with
  | none => rw [e] at h; cases h
  | some z => rw [e] at h; cases h; exact ⟨z, rfl, rfl⟩
theorem take_snoc {α : Type} {l : List α} {i : Nat} {x : α} (h : l[i]? = some x) : l.take (i + 1) = l.take i ++ [x] := by rw [List.take_add_one, h]; rfl
theorem Pg.parts {H : Hp} {v : V} {p : Pg} (h : Rp H v p.d) : ∃ (a : Addr) (v1 v2 v3 v4 : V), v = .ref a ∧ H a = some (.tup [v1, v2, v3, v4]) ∧ Rp H v1 (.tup (p.bx.map bxD)) ∧ Rp H v2 (.tup (p.ls.map lsD)) ∧ Rp H v3 (.tup (p.fs.map fnD)) ∧ Rp H v4 (.tup (Rw.ds p.rows)) := by
  obtain ⟨a, xs, rfl, ha, hx⟩ := h.tupI
  obtain ⟨v1, x1, rfl, r1, h1⟩ := hx.consH
  obtain ⟨v2, x2, rfl, r2, h2⟩ := h1.consH
  obtain ⟨v3, x3, rfl, r3, h3⟩ := h2.consH
  obtain ⟨v4, x4, rfl, r4, h4⟩ := h3.consH
  cases h4.nilH
  exact ⟨a, v1, v2, v3, v4, rfl, ha, r1, r2, r3, r4⟩
theorem fn_parts {H : Hp} {v : V} {f : Fn} (h : Rp H v (fnD f)) : ∃ (a : Addr) (v2 v3 v4 : V), v = .ref a ∧ H a = some (.tup [.str f.1, v2, v3, v4]) ∧ PyData.strOk f.1 = true ∧ Rp H v2 (.tup (f.2.1.map D.str)) ∧ Rp H v3 (.tup (f.2.2.1.map D.str)) ∧ Rp H v4 (.tup (Rw.ds f.2.2.2)) := by
  obtain ⟨a, xs, rfl, ha, hx⟩ := h.tupI
  obtain ⟨x1, rfl, h1, ok⟩ := hx.strH
  obtain ⟨v2, x2, rfl, r2, h2⟩ := h1.consH
  obtain ⟨v3, x3, rfl, r3, h3⟩ := h2.consH
  obtain ⟨v4, x4, rfl, r4, h4⟩ := h3.consH
  cases h4.nilH
  exact ⟨a, v2, v3, v4, rfl, ha, ok, r2, r3, r4⟩
theorem tr_parts {H : Hp} {v : V} {t : Tr} (h : Rp H v (tD t)) : ∃ (a : Addr) (u : V), v = .ref a ∧ H a = some (.tup [.int t.1, u, .int t.2.2]) ∧ Rp H u (dE t.2.1) := by
  obtain ⟨a, xs, rfl, ha, hx⟩ := h.tupI
  obtain ⟨x1, rfl, h1⟩ := hx.intH
  obtain ⟨u, x2, rfl, r2, h2⟩ := h1.consH
  obtain ⟨x3, rfl, h3⟩ := h2.intH
  cases h3.nilH
  exact ⟨a, u, rfl, ha, r2⟩
theorem ask_parts {H : Hp} {v : V} {x d : Str} (h : Rp H v (Rw.d (.ask x d))) : ∃ a, v = .ref a ∧ H a = some (.tup [.str "ask", .str x, .str d]) ∧ PyData.strOk d = true := by
  obtain ⟨a, xs, rfl, ha, hx⟩ := h.tupI
  obtain ⟨x1, rfl, h1, _⟩ := hx.strH
  obtain ⟨x2, rfl, h2, _⟩ := h1.strH
  obtain ⟨x3, rfl, h3, ok⟩ := h2.strH
  cases h3.nilH
  exact ⟨a, rfl, ha, ok⟩
/-! a line of rows, each with those within it -/
abbrev Le := En × Int × List Rw
def due : Nat → List Le → List Tr
  | _, [] => []
  | n, e :: W => ((n : Int), e.1, e.2.1) :: (numRs (n + 1) n e.2.2 ++ due (n + 1 + Rw.cnts e.2.2) W)
def leR (a : Int) (r : Rw) : Le := (.inr r, a, r.inl)
theorem due_push : ∀ (m : Nat) (a : Int) (l : List Rw) (W : List Le), due m (l.map (leR a) ++ W) = numRs m a l ++ due (m + Rw.cnts l) W
  | m, a, [], W => by simp [numRs, Rw.cnts]
  | m, a, r :: l, W => by
    rw [List.map_cons, List.cons_append, due, numRs_cons, numR_eq]
    show ((m : Int), .inr r, a) :: (numRs (m + 1) m r.inl ++ due (m + 1 + Rw.cnts r.inl) _) = _
    rw [due_push _ a l W, Rw.cnts, r.cnt_inl, List.append_assoc, List.cons_append]
    congr 3
    · congr 1; omega
    · congr 1; omega
def leF (f : Fn) : Le := (.inl f.1, -1, f.2.2.2)
theorem due_fns : ∀ (m : Nat) (fs : List Fn) (W : List Le), due m (fs.map leF ++ W) = fnTr m fs ++ due (m + fcnt fs) W
  | m, [], W => by simp [fnTr, fcnt]
  | m, f :: fs, W => by
    rw [List.map_cons, List.cons_append, due, fnTr, fcnt_cons]
    show ((m : Int), .inl f.1, -1) :: (numRs (m + 1) m f.2.2.2 ++ due (m + 1 + Rw.cnts f.2.2.2) _) = _
    rw [due_fns _ fs W, List.cons_append, List.append_assoc]
    congr 4; omega
def lineP (p : Pg) : List Le := p.fs.map leF ++ p.rows.map (leR (-1))
theorem due_all (p : Pg) : due 0 (lineP p) = trs p := by
  unfold lineP trs
  have h := due_push (0 + fcnt p.fs) (-1) p.rows []
  rw [List.append_nil] at h
  rw [due_fns, h, due, List.append_nil, Nat.zero_add]
def wcnt (W : List Le) : Nat := (W.map fun e => Rw.cnts e.2.2 + 1).sum
theorem wcnt_app (a b : List Le) : wcnt (a ++ b) = wcnt a + wcnt b := by simp [wcnt]
theorem wcnt_cons (e : Le) (W : List Le) : wcnt (e :: W) = Rw.cnts e.2.2 + 1 + wcnt W := by simp [wcnt]
theorem wcnt_leR (a : Int) : ∀ l : List Rw, wcnt (l.map (leR a)) = Rw.cnts l
  | [] => rfl
  | r :: l => by rw [List.map_cons, wcnt_cons, wcnt_leR a l, Rw.cnts, r.cnt_inl]; rfl
theorem len_due : ∀ (n : Nat) (W : List Le), (due n W).length = wcnt W
  | _, [] => rfl
  | n, e :: W => by rw [due, List.length_cons, List.length_append, len_numRs, len_due _ W, wcnt_cons]; omega
inductive LnAt (H : Hp) (S : List Addr) : List V → List Le → Prop
  | nil : LnAt H S [] []
  | cons {t l : Addr} {v : V} {ys xs : List V} {e : Le} {W : List Le} : H t = some (.tup [v, .int e.2.1, .ref l]) → Rp H v (dE e.1) → H l = some (.lst ys) → l ∉ S → RpA H ys (Rw.ds e.2.2) → LnAt H S xs W → LnAt H S (.ref t :: xs) (e :: W)
theorem LnAt.on {S S' : List Addr} {H H' : Hp} {xs : List V} {W : List Le} (h : LnAt H S xs W) (c : Chg S' H H') (hS : ∀ s ∈ S', s ∈ S ∨ H s = none) : LnAt H' S xs W := by
  induction h with
  | nil => exact .nil
  | cons e1 r1 e2 n1 r2 _ ih => exact .cons (c.tup e1) (r1.on c) (c.keep e2 fun m => (hS _ m).elim n1 fun z => by rw [z] at e2; cases e2) n1 (r2.on c) ih
theorem LnAt.re {S S' : List Addr} {H : Hp} {xs : List V} {W : List Le} (h : LnAt H S xs W) (hS : ∀ s ∈ S', s ∈ S ∨ H s = none) : LnAt H S' xs W := by
  induction h with
  | nil => exact .nil
  | cons e1 r1 e2 n1 r2 _ ih => exact .cons e1 r1 e2 (fun m => (hS _ m).elim n1 fun z => by rw [z] at e2; cases e2) r2 ih
theorem LnAt.app {S : List Addr} {H : Hp} {xs ys : List V} {W U : List Le} (h : LnAt H S xs W) (h' : LnAt H S ys U) : LnAt H S (xs ++ ys) (W ++ U) := by
  induction h with
  | nil => exact h'
  | cons e1 r1 e2 n1 r2 _ ih => exact .cons e1 r1 e2 n1 r2 ih
theorem LnAt.length {S : List Addr} {H : Hp} {xs : List V} {W : List Le} (h : LnAt H S xs W) : xs.length = W.length := by
  induction h with
  | nil => rfl
  | cons _ _ _ _ _ _ ih => rw [List.length_cons, List.length_cons, ih]
/-- as data -/
def leD (e : Le) : PyData := .tuple [(dE e.1).py, .int e.2.1, .list (D.pys (Rw.ds e.2.2))]
theorem LnAt.dp {K : PySem.W.Frag} {S : List Addr} {H : Hp} {xs : List V} {W : List Le} (h : LnAt H S xs W) : L2.DpAll K H xs (W.map leD) := by
  induction h with
  | nil => exact .nil
  | cons e1 r1 e2 n1 r2 _ ih => exact .cons (.tup (SqT.of e1) (.cons (Rp.dp _ _ r1) (.cons (.int _) (.cons (.lst (SqL.of e2) (RpA.dp _ _ r2)) .nil)))) ih
theorem LnAt.lay {S : List Addr} {H : Hp} {xs : List V} {W : List Le} (h : LnAt H S xs W) : PyData.canLayAll0 (W.map leD) = true := by
  induction h with
  | nil => rfl
  | cons e1 r1 e2 n1 r2 _ ih =>
    rw [List.map_cons, PyData.canLayAll0, ih]
    simp only [leD, PyData.canLay0, PyData.canLayAll0, Rp.lay _ _ r1, RpA.lay _ _ r2, Bool.and_true]
theorem le_depth {n : Nat} : ∀ W : List Le, (∀ e ∈ W, (dE e.1).dep ≤ n ∧ D.deps (Rw.ds e.2.2) ≤ n) → PyData.depthAll (W.map leD) ≤ n + 2
  | [], _ => Nat.zero_le _
  | e :: W, h => by
    have ih := le_depth W fun x hx => h x (List.mem_cons_of_mem _ hx)
    obtain ⟨h1, h2⟩ := h e List.mem_cons_self
    rw [List.map_cons, PyData.depthAll]
    have : PyData.depth (leD e) ≤ n + 2 := by
      simp only [leD, PyData.depth, PyData.depthAll, D.depth_py, D.depth_pys]
      omega
    omega
end RT

/-! ## 20. list += list -/
namespace RT
open PySem PySem.Spec PyProof.Rows L2
theorem seqI_list : seqSlot? (.type "list") (dunderI "add") = pure (some (.builtin "list.__iadd__")) := PySem.seqSlot_of PySem.F.slot_list_iadd.lookup (by decide +kernel)
theorem noFillI_list : fillsInplaceSlot (.type "list") "add" (Operator.Add == .Add) = pure false := by
  unfold fillsInplaceSlot
  show (typeLookup (.type "list") (dunderI "add") >>= fun fi => pure (fi.isSome && !isSeqSlot fi)) = pure false
  rw [PySem.F.slot_list_iadd.lookup]
  rfl
theorem rt_iadd_list {M : Model} {A : Around} {E : Value → Shared → Prop} {s : Shared} {a b : Value} {Q : Value → Shared → Prop} (ha : s.TypeIs a "list") (hb : s.TypeIs b "list")
    (hc : wpAny M A (call (.builtin "list.__iadd__") [a, b]) Q E s) : wpAny M A (inplaceOp .Add a b) Q E s := by
  unfold inplaceOp
  refine wpAny_holding ?_
  refine wpAny_bind (wpAny_typeOf ha (wpAny_bind (wpAny_of_eq noFillI_list ?_)))
  show wpAny M A (if false = true then _ else _) Q E s
  rw [if_neg Bool.false_ne_true]
  refine wpAny_bind (wpAny_binaryOp1_none (nm := "add") ha hb PySem.noFill_list_add ?_)
  refine wpAny_bind (wpAny_of_eq seqI_list ?_)
  exact wpAny_bind (wpAny_rule hc)
/-- l += b -/
def ipL : TIp := fun x y H Q => ∃ l b xs zs, x = .ref l ∧ y = .ref b ∧ H l = some (.lst xs) ∧ H b = some (.lst zs) ∧ xs.length + zs.length ≤ sizeLine ∧ Q (.ref l) (upd H l (.lst (xs ++ zs)))
theorem ip_cat {X : Cx} : PIp X .Add ipL := by
  intro pins s σ H x y v u Q I rx ry h
  obtain ⟨l, b, xs, zs, rfl, rfl, hH, hB, hz, q⟩ := h
  cases rx
  cases ry
  obtain ⟨z, its, n, r, hl, e⟩ := I.lstM hH
  obtain ⟨z2, its2, n2, r2, hl2, e2⟩ := I.lstM hB
  have hsz : its.toArray.size + its2.toArray.size ≤ sizeLine := by rw [List.size_toArray, List.size_toArray]; omega
  have hlong : ¬ (!its.toArray.isEmpty && Builtin.List.listTooLong (its.toArray.size + its2.toArray.size)) = true := by
    rw [notLongL hsz, Bool.and_false]
    exact Bool.false_ne_true
  refine rt_iadd_list ⟨_, e, rfl⟩ ⟨_, e2, rfl⟩ (call_meets PySem.F.slot_list_iadd ⟨_, e, rfl⟩ PySem.F.entry_list_iadd (PySem.F.args_list_iadd_2 _ _)
    (AutoSeq1.list___iadd___list_list_0 l its.toArray n b its2.toArray n2 hlong (by rw [List.size_toArray]; omega) (by omega)) ⟨e, e2, ?_⟩)
  refine ⟨.ref l, _, I.lset (its' := its ++ its2) hH e (by simp) (r.append r2) ?_, rfl, q⟩
  rw [List.length_append]
  omega
/-! ## 21. texts: str, join, or -/
theorem pe_bmU {X : Cx} {K : PySem.W.Frag} {T id : String} {name : Str} {r : V → List V → Hp → VK → Prop} {o e : Expr} {es : List Expr} {to : TE} {t : TA} {apos cpos : Pos}
    (pa : PlainAttrs T) (slot : Slot T name id) (hty : typeOf (.builtin id) = pure (.type "method_descriptor")) (hm : MtR X id r) (ho : PE X o to) (ha : PA X (e :: es) t) (hK : X.K = K := by rfl)
    (hbase : attributeBase o name X.env (eval o X.env) = eval o X.env := by rfl)
    (hfew : ((backTo cpos (starEach (e :: es) X.env)).all (fun x => !x.1) && (backToKw cpos (keywordEach [] X.env)).all (fun x => x.1.isSome)
      && decide ((e :: es).length + ([] : List Keyword).length + (if ([] : List Keyword).isEmpty then 0 else 1) < 30)) = true := by rfl)
    (hline : (apos.endLine == cpos.line) = true := by rfl) (hs : starEach (e :: es) X.env = (false, eval e X.env) :: starEach es X.env := by rfl) (hplain : (backTo cpos (starEach es X.env)).any (·.1) = false := by rfl) :
    PE X (.Call (.Attribute o name apos) (e :: es) [] cpos) (tBM K T r to t) := by
  subst hK
  exact pe_bm pa slot hty hm ho ha hbase hfew hline hs hplain
def uStrX : List V → Hp → VK → Prop := fun xs H Q => (∃ i, xs = [.int i] ∧ i.natAbs.log2 < 1920 ∧ Q (.str (toString i)) H) ∨ ∃ a, xs = [.str a] ∧ Q (.str a) H
theorem call_ustrX {X : Cx} : CallR X (.type "str") uStrX := CallR.or call_str_int SkE.call_str_str
def rJoin (K : PySem.W.Frag) : V → List V → Hp → VK → Prop := fun x xs H Q => ∃ a p, ∃ ys : List Str, x = .str a ∧ xs = [.ref p] ∧ (SqL K H p (ys.map V.str) ∨ SqT K H p (ys.map V.str)) ∧
    (ys.map (·.length)).sum + ys.length * a.length ≤ 16777216 ∧ Q (.str (Str.join a ys)) H
theorem mt_ujoin {X : Cx} {K : PySem.W.Frag} (hK : X.K = K := by rfl) : MtR X "str.join" (rJoin K) := by
  subst hK
  intro pins s σ H x xs v us Q I rx rs h
  obtain ⟨a, p, ys, e1, e2, h1, h2, q⟩ := h
  exact mt_join pins s σ H x xs v us Q I rx rs ⟨a, p, ys, e1, e2, h1, h2, by show Q (.str (Builtin.Str.glued a ys)) H; rw [PySem.StrLaws.glued_eq_join]; exact q⟩
theorem pe_orTU {X : Cx} {K : PySem.W.Frag} {a b : Expr} {ta tb : TE} {rest : List Expr} {pos : Pos} (ha : PE X a ta) (hb : PE X (.BoolOp .Or (b :: rest) pos) tb) (hK : X.K = K := by rfl) : PE X (.BoolOp .Or (a :: b :: rest) pos) (tOrT K ta tb) := by
  subst hK
  exact pe_orT ha hb
section
variable {te tf : TE} {σ : L2.St} {H : Hp} {K : PySem.W.Frag} {Q : VK} {td ty tx : TE}
theorem v_orT (h : te σ H fun x H1 => Tru K x H1 fun k => if k = true then Q x H1 else tf σ H1 Q) : tOrT K te tf σ H Q := h
theorem v_tru_s {P : Bool → Prop} {z : Str} (hz : z.length ≤ sizeLine) (h : P ((z.length : Int) != 0)) : Tru K (.str z) H P := ⟨_, ⟨hz, rfl⟩, h⟩
def IsDA (x : V) (H : Hp) (P : Addr → Prop) : Prop := ∃ a, x = .ref a ∧ IsD H a ∧ P a
def DGot (a : Addr) (y : V) (H : Hp) (P : Option V → Prop) : Prop := ∃ o, DGet H a y o ∧ P o
theorem v_dget2 (h : td σ H fun x H1 => IsDA x H1 fun a => ty σ H1 fun y H2 => tx σ H2 fun z H3 => DGot a y H3 fun o => Q (o.getD z) H3) : tDGet2 td ty tx σ H Q := h
theorem v_isda {a : Addr} {kvs : List (Key × V)} {P : Addr → Prop} (e : H a = some (.dK kvs)) (h : P a) : IsDA (.ref a) H P := ⟨a, rfl, .inl ⟨kvs, .inl e⟩, h⟩
theorem v_dgot {a : Addr} {y : V} {o : Option V} {P : Option V → Prop} (g : DGet H a y o) (h : P o) : DGot a y H P := ⟨o, g, h⟩
theorem v_str_i {i : Int} (hi : i.natAbs.log2 < 1920) (q : Q (.str (toString i)) H) : uStrX [.int i] H Q := .inl ⟨i, rfl, hi, q⟩
theorem v_str_s {z : Str} (q : Q (.str z) H) : uStrX [.str z] H Q := .inr ⟨z, rfl, q⟩
theorem v_join_l {a : Str} {p : Addr} {ys : List Str} (h : SqL K H p (ys.map V.str)) (hl : (ys.map (·.length)).sum + ys.length * a.length ≤ 16777216) (q : Q (.str (Str.join a ys)) H) : rJoin K (.str a) [.ref p] H Q := ⟨a, p, ys, rfl, rfl, .inl h, hl, q⟩
theorem v_ipL {a b : Addr} {xs zs : List V} (h1 : H a = some (.lst xs)) (h2 : H b = some (.lst zs)) (hl : xs.length + zs.length ≤ sizeLine) (q : ∀ H', Chg [a] H H' → H' a = some (.lst (xs ++ zs)) → Q (.ref a) H') : ipL (.ref a) (.ref b) H Q :=
  ⟨a, b, xs, zs, rfl, rfl, h1, h2, hl, q _ (Chg.set h1 (by intro _ e; cases e)) upd_same⟩
end
/-! ## 22. programs as texts -/
def iS (i : Int) : Str := toString i
theorem iS_len {i : Int} (h0 : 0 ≤ i) (h1 : i < 1000000) : (iS i).length ≤ 7 := by
  unfold iS
  have := int_text_length_le10 (a := i) (k := 6) (by decide) (by omega)
  show (Str.ofString (toString i)).length ≤ 7
  rw [PySem.ofString_length]; omega
theorem log2_small {i : Int} (h0 : 0 ≤ i) (h1 : i < 1000000) : i.natAbs.log2 < 1920 := by
  by_cases hz : i.natAbs = 0
  · rw [hz]; decide
  · refine (Nat.log2_lt hz).mpr (Nat.lt_of_lt_of_le (show i.natAbs < 2 ^ 20 by omega) (Nat.pow_le_pow_right (by decide) (by decide)))
def sp1 : Str := Str.ofString " "
def Vl.words : Vl → List Str
  | .num i => [Str.ofString "number", iS i]
  | .box z => [Str.ofString "box", z]
  | .size z => [Str.ofString "size", z]
  | .neg v => Str.ofString "not" :: v.words
  | .item z v => Str.ofString "item" :: z :: v.words
  | .bin w a b => w :: (a.words ++ b.words)
def Vl.txt (v : Vl) : Str := Str.join sp1 v.words
theorem Vl.words_ne : ∀ v : Vl, v.words ≠ [] := by intro v; cases v <;> simp [Vl.words]
theorem str_assoc (a b c : Str) : a ++ b ++ c = a ++ (b ++ c) := by
  have : ∀ x y : Str, x.cps.toList = y.cps.toList → x = y := fun x y h => by cases x; cases y; simp only [Str.mk.injEq]; exact Array.toList_inj.mp h
  apply this
  show ((a.cps ++ b.cps) ++ c.cps).toList = (a.cps ++ (b.cps ++ c.cps)).toList
  simp
theorem join_cons (s x : Str) {l : List Str} (h : l ≠ []) : Str.join s (x :: l) = x ++ s ++ Str.join s l := by
  cases l with
  | nil => exact absurd rfl h
  | cons y l => rfl
theorem join_app (s : Str) : ∀ (a b : List Str), a ≠ [] → b ≠ [] → Str.join s (a ++ b) = Str.join s a ++ s ++ Str.join s b
  | [], _, h, _ => absurd rfl h
  | [x], b, _, hb => by rw [List.singleton_append, join_cons s x hb]; rfl
  | x :: y :: a, b, _, hb => by
    rw [List.cons_append, join_cons s x (by simp), join_app s (y :: a) b (by simp) hb, join_cons s x (by simp)]
    simp only [str_assoc]
theorem join_one (s x : Str) : Str.join s [x] = x := rfl
theorem join_two (s x y : Str) : Str.join s [x, y] = x ++ s ++ y := rfl
theorem join_three (s x y z : Str) : Str.join s [x, y, z] = x ++ s ++ (y ++ s ++ z) := rfl
theorem join_in (s : Str) (x : Str) (l : List Str) (h : l ≠ []) : Str.join s [x, Str.join s l] = Str.join s (x :: l) := by rw [join_two, join_cons s x h]
/-- lengths, with a blank each -/
def wl (l : List Str) : Nat := (l.map fun z => z.length + 1).sum
theorem wl_app (a b : List Str) : wl (a ++ b) = wl a + wl b := by simp [wl]
theorem wl_cons (a : Str) (b : List Str) : wl (a :: b) = a.length + 1 + wl b := by simp [wl]
theorem wl_sum (l : List Str) : (l.map (·.length)).sum + l.length * 1 = wl l := by
  induction l with
  | nil => rfl
  | cons x l ih => rw [wl_cons]; simp only [List.map_cons, List.sum_cons, List.length_cons]; omega
theorem join_len (l : List Str) : (Str.join sp1 l).length ≤ wl l := by
  have := PySem.StrLaws.join_length_le sp1 l
  have e : sp1.length = 1 := rfl
  rw [e, wl_sum] at this
  exact this
theorem bin_len : ∀ w ∈ binW, w.length ≤ 5 := by decide +kernel
theorem Vl.wl_words {B L : Str → Prop} (hB : ∀ z, B z → isNm z = true) (hL : ∀ z, L z → isNm z = true) : ∀ v : Vl, v.ok B L → wl v.words ≤ 16 * 2 ^ v.dp - 16
  | .num i, h => by
    have := iS_len h.1 h.2
    simp only [Vl.words, wl_cons, Vl.dp]
    show 6 + 1 + ((iS i).length + 1 + 0) ≤ _
    omega
  | .box z, h => by
    have hz : z.length ≤ 6 := by have := hB z h; simp only [isNm, Bool.and_eq_true, decide_eq_true_eq] at this; omega
    simp only [Vl.words, wl_cons, Vl.dp]
    show 3 + 1 + (z.length + 1 + 0) ≤ _
    omega
  | .size z, h => by
    have hz : z.length ≤ 6 := by have := hL z h; simp only [isNm, Bool.and_eq_true, decide_eq_true_eq] at this; omega
    simp only [Vl.words, wl_cons, Vl.dp]
    show 4 + 1 + (z.length + 1 + 0) ≤ _
    omega
  | .neg v, h => by
    have ih := Vl.wl_words hB hL v h
    have hp : 2 ≤ 2 ^ v.dp := by
      have : 1 ≤ v.dp := by cases v <;> simp [Vl.dp]
      calc 2 = 2 ^ 1 := rfl
        _ ≤ 2 ^ v.dp := Nat.pow_le_pow_right (by decide) this
    simp only [Vl.words, wl_cons, Vl.dp, Nat.pow_succ]
    show 3 + 1 + _ ≤ _
    omega
  | .item z v, h => by
    have hz : z.length ≤ 6 := by have := hL z h.1; simp only [isNm, Bool.and_eq_true, decide_eq_true_eq] at this; omega
    have ih := Vl.wl_words hB hL v h.2
    have hp : 2 ≤ 2 ^ v.dp := by
      have : 1 ≤ v.dp := by cases v <;> simp [Vl.dp]
      calc 2 = 2 ^ 1 := rfl
        _ ≤ 2 ^ v.dp := Nat.pow_le_pow_right (by decide) this
    simp only [Vl.words, wl_cons, Vl.dp, Nat.pow_succ]
    show 4 + 1 + _ ≤ _
    omega
  | .bin w a b, h => by
    have hw := bin_len w h.1
    have iha := Vl.wl_words hB hL a h.2.1
    have ihb := Vl.wl_words hB hL b h.2.2
    have pa : 2 ^ a.dp ≤ 2 ^ (max a.dp b.dp) := Nat.pow_le_pow_right (by decide) (by omega)
    have pb : 2 ^ b.dp ≤ 2 ^ (max a.dp b.dp) := Nat.pow_le_pow_right (by decide) (by omega)
    have hp : 2 ≤ 2 ^ a.dp := by
      have : 1 ≤ a.dp := by cases a <;> simp [Vl.dp]
      calc 2 = 2 ^ 1 := rfl
        _ ≤ 2 ^ a.dp := Nat.pow_le_pow_right (by decide) this
    simp only [Vl.words, wl_cons, wl_app, Vl.dp, Nat.pow_succ]
    omega
/-! parts of a value -/
def Vl.head : Vl → Str
  | .num _ => Str.ofString "number"
  | .box _ => Str.ofString "box"
  | .size _ => Str.ofString "size"
  | .neg _ => Str.ofString "not"
  | .item .. => Str.ofString "item"
  | .bin w _ _ => w
def Vl.ar : Vl → Int
  | .num _ => 0
  | .box _ => 0
  | .size _ => 0
  | .neg _ => 1
  | .item .. => 1
  | .bin .. => 2
def Vl.parts : Vl → List (Str ⊕ Vl)
  | .neg v => [.inr v]
  | .item z v => [.inl z, .inr v]
  | .bin _ a b => [.inr a, .inr b]
  | _ => []
def pD : Str ⊕ Vl → D
  | .inl z => .str z
  | .inr v => v.d
def pW : Str ⊕ Vl → List Str
  | .inl z => [z]
  | .inr v => v.words
def pT : Str ⊕ Vl → Str
  | .inl z => z
  | .inr v => v.txt
theorem Vl.d_parts {v : Vl} (h : v.ar ≠ 0) : v.d = .tup (.str v.head :: v.parts.map pD) := by cases v <;> first | rfl | exact absurd rfl h
theorem Vl.w_parts {v : Vl} (h : v.ar ≠ 0) : v.words = v.head :: v.parts.flatMap pW := by cases v <;> first | exact absurd rfl h | simp [Vl.words, Vl.head, Vl.parts, pW]
theorem Vl.t_parts {v : Vl} (h : v.ar ≠ 0) : Str.join sp1 (v.head :: v.parts.map pT) = v.txt := by
  cases v with
  | neg v => exact join_in sp1 _ _ v.words_ne
  | item z v =>
    show Str.join sp1 [_, z, Str.join sp1 v.words] = Str.join sp1 (_ :: z :: v.words)
    rw [join_cons _ _ (by simp), join_in _ _ _ v.words_ne, join_cons sp1 (Str.ofString "item") (l := z :: v.words) (by simp)]
    rfl
  | bin w a b =>
    show Str.join sp1 [w, Str.join sp1 a.words, Str.join sp1 b.words] = Str.join sp1 (w :: (a.words ++ b.words))
    have hne : a.words ++ b.words ≠ [] := by simp [a.words_ne]
    rw [join_cons sp1 w hne, join_app _ _ _ a.words_ne b.words_ne, join_cons _ _ (by simp), join_two]
  | _ => exact absurd rfl h
theorem bin_not : ∀ w ∈ binW, w ∉ ([Str.ofString "number", "box", "size"] : List Str) ∧ w ∉ ([Str.ofString "not", "item"] : List Str) ∧ w ∈ ([Str.ofString "plus", "minus", "times", "over", "rest", "less", "same"] : List Str) := by decide +kernel
theorem leaf_heads : (Str.ofString "number" ∈ ([Str.ofString "number", "box", "size"] : List Str)) ∧ (Str.ofString "box" ∈ ([Str.ofString "number", "box", "size"] : List Str)) ∧ (Str.ofString "size" ∈ ([Str.ofString "number", "box", "size"] : List Str)) ∧
    (Str.ofString "not" ∉ ([Str.ofString "number", "box", "size"] : List Str)) ∧ (Str.ofString "item" ∉ ([Str.ofString "number", "box", "size"] : List Str)) ∧ (Str.ofString "not" ∈ ([Str.ofString "not", "item"] : List Str)) ∧ (Str.ofString "item" ∈ ([Str.ofString "not", "item"] : List Str)) := by decide +kernel
theorem Vl.leaf {B L : Str → Prop} {v : Vl} (h : v.ok B L) : v.head ∈ ([Str.ofString "number", "box", "size"] : List Str) ↔ v.ar = 0 := by
  obtain ⟨h1, h2, h3, h4, h5, h6, h7⟩ := leaf_heads
  cases v with
  | num i => exact ⟨fun _ => rfl, fun _ => h1⟩
  | box i => exact ⟨fun _ => rfl, fun _ => h2⟩
  | size i => exact ⟨fun _ => rfl, fun _ => h3⟩
  | neg v => exact ⟨fun z => absurd z h4, fun z => by cases z⟩
  | item z v => exact ⟨fun z => absurd z h5, fun z => by cases z⟩
  | bin w a b => exact ⟨fun z => absurd z (bin_not w h.1).1, fun z => by cases z⟩
theorem Vl.one {B L : Str → Prop} {v : Vl} (h : v.ok B L) (h0 : v.ar ≠ 0) : v.head ∈ ([Str.ofString "not", "item"] : List Str) ↔ v.ar = 1 := by
  obtain ⟨h1, h2, h3, h4, h5, h6, h7⟩ := leaf_heads
  cases v with
  | num i => exact absurd rfl h0
  | box i => exact absurd rfl h0
  | size i => exact absurd rfl h0
  | neg v => exact ⟨fun _ => rfl, fun _ => h6⟩
  | item z v => exact ⟨fun _ => rfl, fun _ => h7⟩
  | bin w a b => exact ⟨fun z => absurd z (bin_not w h.1).2.1, fun z => by cases z⟩
theorem Vl.two {B L : Str → Prop} {v : Vl} (h : v.ok B L) (h0 : v.ar ≠ 0) (h1 : v.ar ≠ 1) : v.head ∈ ([Str.ofString "plus", "minus", "times", "over", "rest", "less", "same"] : List Str) ∧ v.ar = 2 := by
  cases v with
  | num i => exact absurd rfl h0
  | box i => exact absurd rfl h0
  | size i => exact absurd rfl h0
  | neg v => exact absurd rfl h1
  | item z v => exact absurd rfl h1
  | bin w a b => exact ⟨(bin_not w h.1).2.2, rfl⟩
theorem Vl.part_ok {B L : Str → Prop} {v u : Vl} (h : v.ok B L) (m : .inr u ∈ v.parts) : u.ok B L ∧ u.dp + 1 ≤ v.dp := by
  cases v <;> simp only [Vl.parts, List.mem_cons, List.not_mem_nil, or_false, Sum.inr.injEq, reduceCtorEq, false_or] at m
  · subst m; exact ⟨h, by simp [Vl.dp]⟩
  · subst m; exact ⟨h.2, by simp [Vl.dp]⟩
  · rcases m with rfl | rfl
    · exact ⟨h.2.1, by simp only [Vl.dp]; omega⟩
    · exact ⟨h.2.2, by simp only [Vl.dp]; omega⟩
theorem Vl.part_nm {B L : Str → Prop} {v : Vl} {z : Str} (h : v.ok B L) (m : .inl z ∈ v.parts) : L z := by
  cases v <;> simp only [Vl.parts, List.mem_cons, List.not_mem_nil, or_false, Sum.inl.injEq, reduceCtorEq, false_or] at m
  · subst m; exact h.1
theorem cutV_tail (x : V) (xs : List V) : cutV (x :: xs) (some 1) none = xs := by
  show (List.drop (HT.sIx (x :: xs).length 0 (some 1)) (x :: xs)).take ((x :: xs).length - HT.sIx (x :: xs).length 0 (some 1)) = xs
  have e : HT.sIx (x :: xs).length 0 (some 1) = 1 := by
    rw [show (some (1 : Int)) = some ((1 : Nat) : Int) from rfl, HT.sIx_nat, List.length_cons]; omega
  rw [e, List.drop_succ_cons, List.drop_zero, List.length_cons]
  exact List.take_of_length_le (by omega)
/-! rows as texts -/
inductive Pt where
  | tx (z : Str)
  | vl (v : Vl)
  | vls (vs : List Vl)
def Pt.d : Pt → D
  | .tx z => .str z
  | .vl v => v.d
  | .vls vs => .tup (vs.map Vl.d)
def Pt.w : Pt → List Str
  | .tx z => [z]
  | .vl v => [v.txt]
  | .vls vs => vs.map Vl.txt
def En.head : En → String
  | .inl _ => "def"
  | .inr (.set ..) => "set"
  | .inr (.push ..) => "push"
  | .inr (.pop ..) => "pop"
  | .inr (.put ..) => "put"
  | .inr (.ask ..) => "ask"
  | .inr (.tell ..) => "tell"
  | .inr (.fail ..) => "fail"
  | .inr (.call ..) => "call"
  | .inr (.ret ..) => "return"
  | .inr (.ife ..) => "if"
  | .inr (.whl ..) => "while"
  | .inr (.tr ..) => "try"
def En.parts : En → List Pt
  | .inl n => [.tx n]
  | .inr (.set x v) => [.tx x, .vl v]
  | .inr (.push x v) => [.tx x, .vl v]
  | .inr (.pop x l) => [.tx x, .tx l]
  | .inr (.put l v u) => [.tx l, .vl v, .vl u]
  | .inr (.ask x d) => [.tx x, .tx d]
  | .inr (.tell v) => [.vl v]
  | .inr (.fail v) => [.vl v]
  | .inr (.call x f vs) => [.tx x, .tx f, .vls vs]
  | .inr (.ret v) => [.vl v]
  | .inr (.ife v _ _) => [.vl v]
  | .inr (.whl v _) => [.vl v]
  | .inr (.tr ..) => []
def En.words (e : En) : List Str := Str.ofString e.head :: e.parts.flatMap Pt.w
def En.txt (e : En) : Str := Str.join sp1 e.words
def En.nest (e : En) : Prop := e.head = "if" ∨ e.head = "while" ∨ e.head = "try"
theorem En.d_parts {e : En} (h : ¬ e.nest) : dE e = .tup (.str e.head :: e.parts.map Pt.d) := by
  rcases e with n | r
  · rfl
  · cases r with
    | ife => exact absurd (.inl rfl) h
    | whl => exact absurd (.inr (.inl rfl)) h
    | tr => exact absurd (.inr (.inr rfl)) h
    | _ => first | rfl | (simp only [dE, Rw.d]; rfl)
theorem En.cases (e : En) : (∃ v a b, e = .inr (.ife v a b)) ∨ (∃ v a, e = .inr (.whl v a)) ∨ (∃ a x b, e = .inr (.tr a x b)) ∨ (e.head ≠ "if" ∧ e.head ≠ "while" ∧ e.head ≠ "try" ∧ ¬ e.nest) := by
  rcases e with n | r
  · exact .inr (.inr (.inr (by simp [En.head, En.nest])))
  · cases r with
    | ife v a b => exact .inl ⟨v, a, b, rfl⟩
    | whl v a => exact .inr (.inl ⟨v, a, rfl⟩)
    | tr a x b => exact .inr (.inr (.inl ⟨a, x, b, rfl⟩))
    | _ => exact .inr (.inr (.inr (by simp [En.head, En.nest])))
theorem En.part_call {e : En} {vs : List Vl} (h : Pt.vls vs ∈ e.parts) : e.head = "call" := by
  rcases e with n | r
  · simp [En.parts] at h
  · cases r <;> simp [En.parts] at h <;> rfl
theorem En.part_val {e : En} {v : Vl} (h : Pt.vl v ∈ e.parts) : e.head ≠ "call" := by
  rcases e with n | r
  · simp [En.parts] at h
  · cases r <;> simp [En.parts] at h <;> simp [En.head]
/-- what is asked of a row to be told -/
def En.ok (e : En) : Prop := ∃ N : Nms, N.nm ∧ match e with
  | .inl n => isNm n = true
  | .inr r => r.ok N
theorem Nms.len {N : Nms} (h : N.nm) : (∀ z, N.B z → z.length ≤ 6) ∧ (∀ z, N.L z → z.length ≤ 6) ∧ (∀ z n, N.F z n → z.length ≤ 6) ∧ (∀ z, N.Dr z → z.length ≤ 6) := by
  have k : ∀ z : Str, isNm z = true → z.length ≤ 6 := fun z hz => by simp only [isNm, Bool.and_eq_true, decide_eq_true_eq] at hz; omega
  exact ⟨fun z hz => k z (h.1 z hz), fun z hz => k z (h.2.1 z hz), fun z n hz => k z (h.2.2.1 z n hz), fun z hz => k z (h.2.2.2 z hz)⟩
theorem Vl.txt_len {N : Nms} (hN : N.nm) {v : Vl} (h : v.ok4 N) : v.txt.length ≤ 240 := by
  have h1 := join_len v.words
  have h2 := Vl.wl_words hN.1 hN.2.1 v h.1
  have h3 : 2 ^ v.dp ≤ 2 ^ 4 := Nat.pow_le_pow_right (by decide) h.2
  unfold Vl.txt
  omega
theorem wl_txts {N : Nms} (hN : N.nm) : ∀ {vs : List Vl}, (∀ v ∈ vs, v.ok4 N) → wl (vs.map Vl.txt) ≤ 241 * vs.length
  | [], _ => Nat.zero_le _
  | v :: vs, h => by
    have h1 := Vl.txt_len hN (h v List.mem_cons_self)
    have h2 := wl_txts hN (vs := vs) fun u hu => h u (List.mem_cons_of_mem _ hu)
    rw [List.map_cons, wl_cons, List.length_cons]; omega
theorem En.wl_words {e : En} (h : e.ok) : wl e.words ≤ 800 := by
  obtain ⟨N, hN, h⟩ := h
  obtain ⟨l1, l2, l3, l4⟩ := Nms.len hN
  rcases e with n | r
  · have : n.length ≤ 6 := by have := h; simp only [isNm, Bool.and_eq_true, decide_eq_true_eq] at this; omega
    simp only [En.words, En.head, En.parts, List.flatMap_cons, List.flatMap_nil, Pt.w, List.append_nil, wl_cons]
    show 3 + 1 + (n.length + 1 + 0) ≤ _
    omega
  · cases r with
    | set x v =>
      have := l1 x h.1; have := Vl.txt_len hN h.2
      simp only [En.words, En.head, En.parts, List.flatMap_cons, List.flatMap_nil, Pt.w, List.append_nil, List.cons_append, List.nil_append, wl_cons]
      show 3 + 1 + (x.length + 1 + (v.txt.length + 1 + 0)) ≤ _
      omega
    | push x v =>
      have := l2 x h.1; have := Vl.txt_len hN h.2
      simp only [En.words, En.head, En.parts, List.flatMap_cons, List.flatMap_nil, Pt.w, List.append_nil, List.cons_append, List.nil_append, wl_cons]
      show 4 + 1 + (x.length + 1 + (v.txt.length + 1 + 0)) ≤ _
      omega
    | pop x v =>
      have := l1 x h.1; have := l2 v h.2
      simp only [En.words, En.head, En.parts, List.flatMap_cons, List.flatMap_nil, Pt.w, List.append_nil, List.cons_append, List.nil_append, wl_cons]
      show 3 + 1 + (x.length + 1 + (v.length + 1 + 0)) ≤ _
      omega
    | put l v u =>
      have := l2 l h.1; have := Vl.txt_len hN h.2.1; have := Vl.txt_len hN h.2.2
      simp only [En.words, En.head, En.parts, List.flatMap_cons, List.flatMap_nil, Pt.w, List.append_nil, List.cons_append, List.nil_append, wl_cons]
      show 3 + 1 + (l.length + 1 + (v.txt.length + 1 + (u.txt.length + 1 + 0))) ≤ _
      omega
    | ask x d =>
      have := l1 x h.1; have := l4 d h.2
      simp only [En.words, En.head, En.parts, List.flatMap_cons, List.flatMap_nil, Pt.w, List.append_nil, List.cons_append, List.nil_append, wl_cons]
      show 3 + 1 + (x.length + 1 + (d.length + 1 + 0)) ≤ _
      omega
    | tell v =>
      have := Vl.txt_len hN h
      simp only [En.words, En.head, En.parts, List.flatMap_cons, List.flatMap_nil, Pt.w, List.append_nil, List.cons_append, List.nil_append, wl_cons]
      show 4 + 1 + (v.txt.length + 1 + 0) ≤ _
      omega
    | fail v =>
      have := Vl.txt_len hN h
      simp only [En.words, En.head, En.parts, List.flatMap_cons, List.flatMap_nil, Pt.w, List.append_nil, List.cons_append, List.nil_append, wl_cons]
      show 4 + 1 + (v.txt.length + 1 + 0) ≤ _
      omega
    | call x f vs =>
      have := l1 x h.1; have := l3 f _ h.2.1; have := wl_txts hN h.2.2.2; have := h.2.2.1
      simp only [En.words, En.head, En.parts, List.flatMap_cons, List.flatMap_nil, Pt.w, List.append_nil, List.cons_append, List.nil_append, wl_cons]
      show 4 + 1 + (x.length + 1 + (f.length + 1 + wl (vs.map Vl.txt))) ≤ _
      omega
    | ret v =>
      have := Vl.txt_len hN h.2
      simp only [En.words, En.head, En.parts, List.flatMap_cons, List.flatMap_nil, Pt.w, List.append_nil, List.cons_append, List.nil_append, wl_cons]
      show 6 + 1 + (v.txt.length + 1 + 0) ≤ _
      omega
    | ife v a b =>
      have := Vl.txt_len hN h.1
      simp only [En.words, En.head, En.parts, List.flatMap_cons, List.flatMap_nil, Pt.w, List.append_nil, List.cons_append, List.nil_append, wl_cons]
      show 2 + 1 + (v.txt.length + 1 + 0) ≤ _
      omega
    | whl v a =>
      have := Vl.txt_len hN h.1
      simp only [En.words, En.head, En.parts, List.flatMap_cons, List.flatMap_nil, Pt.w, List.append_nil, List.cons_append, List.nil_append, wl_cons]
      show 5 + 1 + (v.txt.length + 1 + 0) ≤ _
      omega
    | tr a x b =>
      simp only [En.words, En.head, En.parts, List.flatMap_nil, wl_cons]
      show 3 + 1 + 0 ≤ _
      omega
theorem En.txt_len {e : En} (h : e.ok) : e.txt.length ≤ 800 := Nat.le_trans (join_len _) (En.wl_words h)
/-! lines -/
def sp2 : Str := Str.ofString "  "
def elseL (ah : Str) (b : List Rw) : List Str := match b with | [] => [] | _ :: _ => [ah ++ Str.ofString "else"]
mutual
def linesR : Str → Rw → List Str
  | ah, .ife v a b => (ah ++ En.txt (.inr (.ife v a b))) :: (linesRs (ah ++ sp2) a ++ (elseL ah b ++ linesRs (ah ++ sp2) b) ++ [ah ++ Str.ofString "end"])
  | ah, .whl v a => (ah ++ En.txt (.inr (.whl v a))) :: (linesRs (ah ++ sp2) a ++ [ah ++ Str.ofString "end"])
  | ah, .tr a x b => (ah ++ En.txt (.inr (.tr a x b))) :: (linesRs (ah ++ sp2) a ++ ([ah ++ Str.ofString "catch " ++ x] ++ linesRs (ah ++ sp2) b) ++ [ah ++ Str.ofString "end"])
  | ah, r => [ah ++ En.txt (.inr r)]
def linesRs : Str → List Rw → List Str
  | _, [] => []
  | ah, r :: l => linesR ah r ++ linesRs ah l
end
theorem linesRs_app : ∀ (ah : Str) (l m : List Rw), linesRs ah (l ++ m) = linesRs ah l ++ linesRs ah m
  | ah, [], m => by simp [linesRs]
  | ah, r :: l, m => by rw [List.cons_append, linesRs, linesRs, linesRs_app ah l m, List.append_assoc]
theorem linesRs_one (ah : Str) (r : Rw) : linesRs ah [r] = linesR ah r := by rw [linesRs, linesRs, List.append_nil]
theorem linesR_ife (ah : Str) (v : Vl) (a b : List Rw) : linesR ah (.ife v a b) = (ah ++ En.txt (.inr (.ife v a b))) :: (linesRs (ah ++ sp2) a ++ (elseL ah b ++ linesRs (ah ++ sp2) b) ++ [ah ++ Str.ofString "end"]) := by rw [linesR]
theorem linesR_plain {ah : Str} {r : Rw} (h : ¬ En.nest (.inr r)) : linesR ah r = [ah ++ En.txt (.inr r)] := by
  cases r with
  | ife => exact absurd (.inl rfl) h
  | whl => exact absurd (.inr (.inl rfl)) h
  | tr => exact absurd (.inr (.inr rfl)) h
  | _ => simp only [linesR]
theorem elseL_len (ah : Str) (b : List Rw) : (elseL ah b).length ≤ 1 := by cases b <;> simp [elseL]
def Rw.okx (r : Rw) : Prop := ∃ N : Nms, N.nm ∧ r.ok N
def Rw.oksx (l : List Rw) : Prop := ∃ N : Nms, N.nm ∧ Rw.oks N l
theorem Rw.okx_en {r : Rw} (h : r.okx) : En.ok (.inr r) := h
theorem Rw.oksx_mem {l : List Rw} {r : Rw} (h : Rw.oksx l) (m : r ∈ l) : r.okx := by
  obtain ⟨N, hN, h⟩ := h
  exact ⟨N, hN, Rw.oks_iff.mp h r m⟩
theorem Rw.okx_ins {r : Rw} {s : List Rw} (h : r.okx) (m : s ∈ r.ins) : Rw.oksx s := by
  obtain ⟨N, hN, h⟩ := h
  refine ⟨N, hN, ?_⟩
  cases r <;> simp only [Rw.ins, List.mem_cons, List.not_mem_nil, or_false] at m
  · rcases m with rfl | rfl
    · exact h.2.1
    · exact h.2.2
  · subst m; exact h.2
  · rcases m with rfl | rfl
    · exact h.2.1
    · exact h.2.2
mutual
theorem len_linesR : ∀ (r : Rw) (ah : Str), (linesR ah r).length ≤ 3 * r.cnt
  | .ife v a b, ah => by
    have h1 := len_linesRs a (ah ++ sp2); have h2 := len_linesRs b (ah ++ sp2); have h3 := elseL_len ah b
    rw [linesR_ife]; simp only [List.length_cons, List.length_append, List.length_nil, Rw.cnt]; omega
  | .whl v a, ah => by
    have h1 := len_linesRs a (ah ++ sp2)
    rw [linesR]; simp only [List.length_cons, List.length_append, List.length_nil, Rw.cnt]; omega
  | .tr a x b, ah => by
    have h1 := len_linesRs a (ah ++ sp2); have h2 := len_linesRs b (ah ++ sp2)
    rw [linesR]; simp only [List.length_cons, List.length_append, List.length_nil, Rw.cnt]; omega
  | .set .., _ => by simp [linesR, Rw.cnt]
  | .push .., _ => by simp [linesR, Rw.cnt]
  | .pop .., _ => by simp [linesR, Rw.cnt]
  | .put .., _ => by simp [linesR, Rw.cnt]
  | .ask .., _ => by simp [linesR, Rw.cnt]
  | .tell .., _ => by simp [linesR, Rw.cnt]
  | .fail .., _ => by simp [linesR, Rw.cnt]
  | .call .., _ => by simp [linesR, Rw.cnt]
  | .ret .., _ => by simp [linesR, Rw.cnt]
theorem len_linesRs : ∀ (l : List Rw) (ah : Str), (linesRs ah l).length ≤ 3 * Rw.cnts l
  | [], _ => by simp [linesRs]
  | r :: l, ah => by
    have h1 := len_linesR r ah; have h2 := len_linesRs l ah
    rw [linesRs, List.length_append, Rw.cnts]; omega
end
def Short (m : Nat) (ls : List Str) : Prop := ∀ z ∈ ls, z.length ≤ m
theorem Short.app {m : Nat} {a b : List Str} (h : Short m a) (h' : Short m b) : Short m (a ++ b) := fun z hz => (List.mem_append.mp hz).elim (h z) (h' z)
theorem Short.cons {m : Nat} {a : Str} {b : List Str} (h : a.length ≤ m) (h' : Short m b) : Short m (a :: b) := fun z hz => (List.mem_cons.mp hz).elim (fun e => by rw [e]; exact h) (h' z)
theorem Short.nil {m : Nat} : Short m [] := fun _ h => by cases h
theorem wl_short {m : Nat} : ∀ {l : List Str}, Short m l → wl l ≤ l.length * (m + 1)
  | [], _ => Nat.zero_le _
  | x :: l, h => by
    have h1 := h x List.mem_cons_self
    have h2 := wl_short (l := l) fun z hz => h z (List.mem_cons_of_mem _ hz)
    rw [wl_cons, List.length_cons, Nat.succ_mul]; omega
theorem sla (a b : Str) : (a ++ b).length = a.length + b.length := Str.length_append a b
mutual
theorem short_linesR : ∀ (r : Rw) (ah : Str), r.okx → ah.length + 2 * r.dpt ≤ 100 → Short 1000 (linesR ah r)
  | .ife v a b, ah, h, hl => by
    simp only [Rw.dpt] at hl
    have h1 := short_linesRs a (ah ++ sp2) (Rw.okx_ins h (by simp [Rw.ins])) (by rw [sla]; show ah.length + 2 + _ ≤ _; omega)
    have h2 := short_linesRs b (ah ++ sp2) (Rw.okx_ins h (by simp [Rw.ins])) (by rw [sla]; show ah.length + 2 + _ ≤ _; omega)
    have ht := En.txt_len (Rw.okx_en h)
    have h3 : Short 1000 (elseL ah b) := by
      cases b
      · exact .nil
      · exact .cons (by rw [sla]; show ah.length + 4 ≤ _; omega) .nil
    rw [linesR_ife]
    exact .cons (by rw [sla]; omega) ((h1.app (h3.app h2)).app (.cons (by rw [sla]; show ah.length + 3 ≤ _; omega) .nil))
  | .whl v a, ah, h, hl => by
    simp only [Rw.dpt] at hl
    have h1 := short_linesRs a (ah ++ sp2) (Rw.okx_ins h (by simp [Rw.ins])) (by rw [sla]; show ah.length + 2 + _ ≤ _; omega)
    have ht := En.txt_len (Rw.okx_en h)
    rw [linesR]
    exact .cons (by rw [sla]; omega) (h1.app (.cons (by rw [sla]; show ah.length + 3 ≤ _; omega) .nil))
  | .tr a x b, ah, h, hl => by
    simp only [Rw.dpt] at hl
    have h1 := short_linesRs a (ah ++ sp2) (Rw.okx_ins h (by simp [Rw.ins])) (by rw [sla]; show ah.length + 2 + _ ≤ _; omega)
    have h2 := short_linesRs b (ah ++ sp2) (Rw.okx_ins h (by simp [Rw.ins])) (by rw [sla]; show ah.length + 2 + _ ≤ _; omega)
    have ht := En.txt_len (Rw.okx_en h)
    have hx : x.length ≤ 6 := by
      obtain ⟨N, hN, h⟩ := h
      exact (Nms.len hN).1 x h.1
    rw [linesR]
    exact .cons (by rw [sla]; omega) ((h1.app (.cons (by rw [sla, sla]; show ah.length + 6 + x.length ≤ _; omega) h2)).app (.cons (by rw [sla]; show ah.length + 3 ≤ _; omega) .nil))
  | .set .., ah, h, hl => by have ht := En.txt_len (Rw.okx_en h); rw [linesR_plain (by simp [En.nest, En.head])]; exact .cons (by rw [sla]; omega) .nil
  | .push .., ah, h, hl => by have ht := En.txt_len (Rw.okx_en h); rw [linesR_plain (by simp [En.nest, En.head])]; exact .cons (by rw [sla]; omega) .nil
  | .pop .., ah, h, hl => by have ht := En.txt_len (Rw.okx_en h); rw [linesR_plain (by simp [En.nest, En.head])]; exact .cons (by rw [sla]; omega) .nil
  | .put .., ah, h, hl => by have ht := En.txt_len (Rw.okx_en h); rw [linesR_plain (by simp [En.nest, En.head])]; exact .cons (by rw [sla]; omega) .nil
  | .ask .., ah, h, hl => by have ht := En.txt_len (Rw.okx_en h); rw [linesR_plain (by simp [En.nest, En.head])]; exact .cons (by rw [sla]; omega) .nil
  | .tell .., ah, h, hl => by have ht := En.txt_len (Rw.okx_en h); rw [linesR_plain (by simp [En.nest, En.head])]; exact .cons (by rw [sla]; omega) .nil
  | .fail .., ah, h, hl => by have ht := En.txt_len (Rw.okx_en h); rw [linesR_plain (by simp [En.nest, En.head])]; exact .cons (by rw [sla]; omega) .nil
  | .call .., ah, h, hl => by have ht := En.txt_len (Rw.okx_en h); rw [linesR_plain (by simp [En.nest, En.head])]; exact .cons (by rw [sla]; omega) .nil
  | .ret .., ah, h, hl => by have ht := En.txt_len (Rw.okx_en h); rw [linesR_plain (by simp [En.nest, En.head])]; exact .cons (by rw [sla]; omega) .nil
theorem short_linesRs : ∀ (l : List Rw) (ah : Str), Rw.oksx l → ah.length + 2 * Rw.dpts l ≤ 100 → Short 1000 (linesRs ah l)
  | [], ah, _, _ => by rw [linesRs]; exact .nil
  | r :: l, ah, h, hl => by
    simp only [Rw.dpts] at hl
    have h1 := short_linesR r ah (Rw.oksx_mem h List.mem_cons_self) (by omega)
    have h2 := short_linesRs l ah (by obtain ⟨N, hN, h⟩ := h; exact ⟨N, hN, h.2⟩) (by omega)
    rw [linesRs]; exact h1.app h2
end
end RT

/-! ## 23. errors as values -/
namespace RT
open PySem PySem.Spec PyProof.Rows L2
def rIsX (K : PySem.W.Frag) : List V → Hp → VK → Prop := fun xs H Q => ∃ (a D : Addr) (c : V) (cv : Value) (b : Bool), xs = [.ref a, c] ∧ H a = some (ExO (.ref D) a) ∧ ExcC K D ∧ (∀ u, RelV c u → u = cv) ∧ PySem.W.kitOne K (.ref D) cv = some b ∧ Q (.bl b) H
theorem call_isX {X : Cx} {K : PySem.W.Frag} (hK : X.K = K := by rfl) : CallR X (.builtin "isinstance") (rIsX K) := by
  subst hK
  intro pins s σ H xs us Q I r h
  obtain ⟨a, D, c, cv, b, rfl, ha, C, hcv, e, q⟩ := h
  cases r with
  | cons rx rr =>
    cases rr with
    | cons rt rr =>
      cases rr
      cases rx
      have ec := hcv _ rt
      subst ec
      obtain ⟨⟨oe, vs, ho, hz, hv, _⟩, _, _⟩ := I.hok a _ ha
      have J : PySem.W.InstAt s.heap a oe D none := by
        obtain ⟨oc, od, oda, osl⟩ := oe
        obtain ⟨h1, h2⟩ := hz
        dsimp only at h1 h2 hv
        subst h1 h2 hv
        exact ⟨ho, rfl, rfl, trivial⟩
      exact PySem.W.kia_one (PySem.W.handS_kitx_exc C.hg C.hk C.hs C.hd C.ha C.hn C.ht C.hm) I.kIn J e (fun z => nomatch z) fun tk => ⟨.bl b, H, I.kept (t' := tk) fun _ _ z => z, rfl, q⟩
def tExc (C : Addr) (ta : TE) : TE := fun σ H Q => ta σ H fun _ H1 => ∀ a, H1 a = none → Q (.ref a) (upd H1 a (ExO (.ref C) a))
theorem pe_excU {X : Cx} {K : PySem.W.Frag} {x : Str} {mg : Str → Option Value} {e : Expr} {ta : TE} {p pos : Pos} (h : ExcAt K mg x) (he : PE X e ta) (hK : X.K = K := by rfl) (hm : X.mg = mg := by rfl) (hg : Gl X x := by rfl)
    (hs : starEach [e] X.env = (false, eval e X.env) :: starEach [] X.env := by rfl) (hdb : (x == ("__debug__" : Str)) = false := by decide) : PE X (.Call (.Name x p) [e] [] pos) (tExc h.C ta) := by
  subst hK hm
  exact pe_exc1 PySem.F.excBase_ValueError h.ex h.g h.kp hg he hs hdb
section
variable {te : TE} {σ : L2.St} {H : Hp} {K : PySem.W.Frag} {Q : VK}
def NewE (C : Addr) (H : Hp) (Q : VK) : Prop := ∀ a, H a = none → Q (.ref a) (upd H a (ExO (.ref C) a))
theorem v_exc {C : Addr} (h : te σ H fun _ H1 => NewE C H1 Q) : tExc C te σ H Q := h
theorem v_newE {C : Addr} (h : ∀ a H', H a = none → Chg [] H H' → H' a = some (ExO (.ref C) a) → Q (.ref a) H') : NewE C H Q := fun a ha => h a _ ha (.new ha) upd_same
theorem v_isX {a D : Addr} {c : V} {cv : Value} {b : Bool} (ha : H a = some (ExO (.ref D) a)) (C : ExcC K D) (hcv : ∀ u, RelV c u → u = cv) (hk : PySem.W.kitOne K (.ref D) cv = some b) (q : Q (.bl b) H) : rIsX K [.ref a, c] H Q := ⟨a, D, c, cv, b, rfl, ha, C, hcv, hk, q⟩
end
/-! ## 24. texts: partition, split, upper, slices, int -/
def uIntS : List V → Hp → VK → Prop := fun xs H Q => ∃ a n, xs = [.str a] ∧ PySem.intText? a = some n ∧ a.length ≤ 640 ∧ Q (.int n) H
theorem call_uintS {X : Cx} : CallR X (.type "int") uIntS := call_int_str
def uPart : V → List V → Hp → VK → Prop := fun x xs H Q => ∃ a b, x = .str a ∧ xs = [.str b] ∧ (b.length == 0) = false ∧ a.length ≤ sizeLine ∧
  ∀ p, H p = none → Q (.ref p) (upd H p (.tup [.str (Txt.partition a b).1, .str (Txt.partition a b).2.1, .str (Txt.partition a b).2.2]))
theorem mt_upart {X : Cx} : MtR X "str.partition" uPart := mt_partition
def uSplit : V → List V → Hp → VK → Prop := fun x xs H Q => ∃ a b, x = .str a ∧ xs = [.str b] ∧ (b.length == 0) = false ∧ a.length + 2 ≤ sizeLine ∧ rNewStrs (Txt.split a b) H Q
theorem mt_usplit {X : Cx} : MtR X "str.split" uSplit := mt_split
def uUpper : V → List V → Hp → VK → Prop := fun x xs H Q => ∃ a, x = .str a ∧ xs = [] ∧ a.length ≤ 5592405 ∧ Q (.str (Txt.upper a)) H
theorem mt_uupper {X : Cx} : MtR X "str.upper" uUpper := mt_upper
def uSlS (K : PySem.W.Frag) : V → Option Int → Option Int → Hp → VK → Prop := fun x lo hi H Q => uSl K x lo hi H Q ∨ rSlS x lo hi H Q
theorem sl_uS {X : Cx} {K : PySem.W.Frag} (hK : X.K = K := by rfl) : SlR X (uSlS K) := by
  subst hK
  exact SlR.or sl_u sl_str
section
variable {H : Hp} {K : PySem.W.Frag} {Q : VK}
theorem v_part_s {a b : Str} (hb : (b.length == 0) = false) (hl : a.length ≤ sizeLine) (q : ∀ p H', H p = none → Chg [] H H' → H' p = some (.tup [.str (Txt.partition a b).1, .str (Txt.partition a b).2.1, .str (Txt.partition a b).2.2]) → Q (.ref p) H') : uPart (.str a) [.str b] H Q :=
  ⟨a, b, rfl, rfl, hb, hl, fun p hp => q p _ hp (.new hp) upd_same⟩
theorem v_split_s {a b : Str} (hb : (b.length == 0) = false) (hl : a.length + 2 ≤ sizeLine) (q : ∀ p H', H p = none → Chg [] H H' → H' p = some (.lst ((Txt.split a b).map V.str)) → Q (.ref p) H') : uSplit (.str a) [.str b] H Q :=
  ⟨a, b, rfl, rfl, hb, hl, fun p hp => q p _ hp (.new hp) upd_same⟩
theorem v_upper_s {a : Str} (hl : a.length ≤ 5592405) (q : Q (.str (Txt.upper a)) H) : uUpper (.str a) [] H Q := ⟨a, rfl, rfl, hl, q⟩
theorem v_slS {z : Str} {lo hi : Option Int} (hl : z.length ≤ sizeLine) (q : Q (.str (cutS z lo hi)) H) : uSlS K (.str z) lo hi H Q := .inr ⟨z, rfl, hl, q⟩
theorem v_intS {z : Str} {n : Int} (h : PySem.intText? z = some n) (hl : z.length ≤ 640) (q : Q (.int n) H) : uIntS [.str z] H Q := ⟨z, n, rfl, h, hl, q⟩
/-- one sign in a text -/
theorem v_in_sg {c : Nat} {z : Str} (q : Q (.bl (decide (c ∈ z.cps.toList))) H) : uIn K false (.str ⟨#[c]⟩) (.str z) H Q :=
  .inr ⟨⟨#[c]⟩, z, rfl, rfl, by
    show Q (.bl (!(Builtin.Str.occurrences z ⟨#[c]⟩ 0 z.length 1).isEmpty)) H
    rw [PySem.StrLaws.found_one z c]; exact q⟩
theorem v_nin_sg {c : Nat} {z : Str} (q : Q (.bl (!decide (c ∈ z.cps.toList))) H) : uIn K true (.str ⟨#[c]⟩) (.str z) H Q :=
  .inr ⟨⟨#[c]⟩, z, rfl, rfl, by
    show Q (.bl (!(!(Builtin.Str.occurrences z ⟨#[c]⟩ 0 z.length 1).isEmpty))) H
    rw [PySem.StrLaws.found_one z c]; exact q⟩
end
theorem mt_uindex {X : Cx} {K : PySem.W.Frag} (hK : X.K = K := by rfl) : MtR X "list.index" (rIndex K) := by
  subst hK
  exact mt_index
theorem v_index {H : Hp} {K : PySem.W.Frag} {Q : VK} {a : Addr} {ys : List V} {y z : V} (j : Nat) (h : SqL K H a ys) (fy : flatV y = true) (fys : ys.all flatV = true) (hz : ys[j]? = some z) (he : eqV z y = true) (hno : ∀ (m : Nat) (z' : V), m < j → ys[m]? = some z' → eqV z' y = false)
    (q : Q (.int (j : Nat)) H) : rIndex K (.ref a) [y] H Q := ⟨a, ys, y, j, z, rfl, rfl, h, fy, fys, hz, he, hno, q⟩
theorem blkOk_in {N N' : List Str} {sc sc' scope : Scope} {own : List (Str × Nat)} (hN : N' = N) (hs : sc' = sc) (h : blkC N sc scope own = true) : BlkOk N' sc' scope own := by
  subst hN hs
  exact blkOk_by h
theorem cutS_len (z : Str) (lo hi : Option Int) : (cutS z lo hi).length ≤ z.length := by
  unfold cutS
  simp only [Str.length, Array.size_extract, List.size_toArray, List.length_take, List.length_drop, Array.length_toList]
  omega
end RT
/-! ## 25. a for over a tuple while an error is held -/
namespace RT
open PySem PySem.Spec PyProof.Rows L2 L2H HotX
section
variable {prog : Program} {w : World} {A : Around} {E : Value → Shared → Prop} {s : Shared}
theorem pyNext_tuple_end_hot {it t x1 : Addr} {i : Nat} {items : Array Value} {Q : Option Value → Shared → Prop} (hot : HotAt A x1 s.heap) (hne : x1 ≠ it)
    (hit : s.heap.IsTupleIter it t i) (ht : s.heap.IsTuple t items) (hx : items[i]? = none)
    (hQ : ∀ h', (∀ b o, b ≠ it → s.heap.get? b = some o → h'.get? b = some o) → Q none { s with heap := h' }) : wpAny (model prog w) A (pyNext (.ref it)) Q E s := by
  obtain ⟨o, ho, hc, hd⟩ := id hit
  obtain ⟨ol, hol, _, nl, hdl⟩ := ht
  obtain ⟨hh, o1, vs1, h1, d1, c1⟩ := hot
  unfold pyNext
  refine wpAny_bind (wpAny_attempt (wpAny_callSpecial?_slot (name := Str.ofString "__next__") hit.typeIs PySem.F.slot_tuple_iterator_next
    (wpAny_call_entry PySem.F.slot_tuple_iterator_next hit.typeIs PySem.F.entry_tuple_iterator_next ?_ (PySem.F.args_tuple_iterator_next_1 _))))
  show wpAny _ _ (field (.ref it) 0 >>= _) _ _ s
  refine wpAny_bind (wpAny_field ho hd (x := .ref t) rfl ?_)
  show wpAny _ _ (if (Value.ref t == Value.none) = true then _ else _) _ _ s
  rw [if_neg (show ¬ ((Value.ref t == Value.none) = true) from Bool.false_ne_true)]
  show wpAny _ _ (field (.ref it) 1 >>= _) _ _ s
  refine wpAny_bind (wpAny_field ho hd (x := .int i 0) rfl ?_)
  show wpAny _ _ (seqItems? (.ref t) >>= _) _ _ s
  refine wpAny_bind (wpAny_seqItems hol hdl ?_)
  simp only [Int.toNat_natCast, hx]
  refine wpAny_bind (wpAny_rule (wpAny_bind (wpAny_setField ho hd (by simp) ?_)))
  show wpAny _ _ (newExc (.type "StopIteration") [] >>= _) _ _ _
  refine wpAny_bind ?_
  simp only [newExc, newTuple]
  refine wpAny_bind (wpAny_newObj_type ?_ (by size_fits))
  refine wpAny_bind (m := firstArgMember _ _) (wpAny_of_eq (a := Value.none) (by first | rfl | (simp only [firstArgMember]; rfl)) ?_)
  refine wpAny_newObj_type ?_ (by size_fits)
  have h1' : (s.heap.update it (Obj.mapFields (·.setIfInBounds 0 Value.none))).get? x1 = some o1 := (Heap.get?_update_other _ _ (Ne.symm hne)).trans h1
  refine raiseNew_hot ⟨hh, o1, vs1, Heap.get?_push_of_some _ (Heap.get?_push_of_some _ h1'), d1, c1⟩ (Nat.ne_of_lt (Heap.lt_size (Heap.get?_push_of_some _ h1'))) (Heap.get?_push_size _ rfl) rfl (by first | (simp; done) | (simp; omega) | (simp only [Array.size_append]; simp; omega)) ?_
  refine wpAny_bind (wpAny_isInstance (T := "StopIteration") (b := true) ⟨_, Heap.get?_update_self _ (Heap.get?_push_size _ rfl) rfl, rfl⟩ isSubtype_stop ?_)
  refine wpAny_pure (hQ _ fun b o' hb e => ?_)
  have e' : (s.heap.update it (Obj.mapFields (·.setIfInBounds 0 Value.none))).get? b = some o' := (Heap.get?_update_other _ _ (Ne.symm hb)).trans e
  rw [Heap.get?_update_other _ _ (Nat.ne_of_gt (Heap.lt_size (Heap.get?_push_of_some _ e')))]
  exact Heap.get?_push_of_some _ (Heap.get?_push_of_some _ e')
end
/-- turns over a tuple -/
theorem turn_tupleH {P : Program} {w : World} {K : PySem.W.Frag} {tg : Expr} (a it : Addr) : TurnH P w K tg (Itt K a) [it] it (fun i h => h.IsTupleIter it a i) where
  mem := by simp
  obj := fun i h st b hb => by
    have e : b = it := by simpa using hb
    subst e
    obtain ⟨o, e, c, d⟩ := st
    exact ⟨o, e, fun v z => by rw [d] at z; cases z⟩
  keep := fun i h h' st k => st.at fun o e => k it (by simp) o e
  item := by
    intro X hP hw hK hc i pins s σ H E I hf st hg
    subst hP hw hK
    obtain ⟨xs, x, hq, hx⟩ := hg
    obtain ⟨its, rv, p, hz⟩ := I.tuple hq
    obtain ⟨u, hu, ru⟩ := rv.get hx
    obtain ⟨f0, f1, f2, f3, f4, f5⟩ := hf it (by simp)
    refine wpAny_pyNext_tuple_item st (show s.heap.IsTuple a its.toArray from p) (x := u) (by simpa using hu) fun h' st' sb => ?_
    have I1 : Inv X pins σ H { s with heap := h' } := I.turned (t' := s.toks) (fun b o hb e => (sb.2 b hb).trans e) f0 f1 f3 f4 f5
    obtain ⟨o, e, c, d⟩ := id st'
    exact ⟨u, rfl, go_of (s := { s with heap := h' }) e c d (by decide) ⟨x, H, I1, ru, ⟨rfl, fun ys hy => by rw [I.tuple_inj hy hq]; exact hx⟩, st', fun b hb => (hf b hb).1⟩⟩
  done := by
    intro X hP hw hK hc i pins s σ H E I hf st hg
    subst hP hw hK
    obtain ⟨xs, hq, hx⟩ := hg
    obtain ⟨its, rv, p, hz⟩ := I.tuple hq
    obtain ⟨f0, f1, f2, f3, f4, f5⟩ := hf it (by simp)
    have hl := rv.length
    obtain ⟨q, ⟨hh, vs, hd, h2⟩, hm⟩ := hc
    have hp := (I.pin q (List.mem_append_left _ hm)).1
    exact pyNext_tuple_end_hot (x1 := q.1) ⟨hh, q.2, vs, hp, hd, h2⟩ (f5 q (List.mem_append_left _ hm)) st (show s.heap.IsTuple a its.toArray from p) (by simp; omega) fun h' eb => ⟨rfl, I.turned (t' := s.toks) (fun b o hb e => eb b o hb e) f0 f1 f3 f4 f5⟩
  self := fun _ _ _ _ _ st h => wpAny_pyIter_tupleiter st h
def iTupH (K : PySem.W.Frag) (tl : TE) : TI := fun σ H R => tl σ H fun x H1 => ∃ a, x = .ref a ∧ (∃ xs, SqT K H1 a xs) ∧ R (Itt K a) H1
theorem pi_tupH {X : Cx} {K : PySem.W.Frag} {tg l : Expr} {tl : TE} (hl : PE X l tl) (hK : X.K = K := by rfl) : PIH X tg l (iTupH K tl) := by
  subst hK
  refine ⟨fun pins s σ H R I h => ?_⟩
  refine thn (hl.run pins s σ H _ I h) fun v s1 hh => ?_
  obtain ⟨x, H1, I1, r1, a, rfl, ⟨xs, hq⟩, q⟩ := hh
  cases r1
  obtain ⟨its, rv, p, hz⟩ := I1.tuple hq
  refine wpAny_pyIter_tuple (show s1.heap.IsTuple a its.toArray from p) ?_
  refine ⟨s1.heap.objs.size, [s1.heap.objs.size], _, _, H1, rfl, I1.kept (t' := s1.toks) fun b o e => Heap.get?_push_of_some _ e, turn_tupleH a _, ⟨_, Heap.get?_push_size _ rfl, rfl, rfl⟩, fun b hb => ?_, q⟩
  have e : b = s1.heap.objs.size := by simpa using hb
  subst e
  exact I1.fpOk (Nat.le_refl _) (I1.hok.fresh (Nat.le_refl _))
def ItH (K : PySem.W.Frag) (x : V) (H1 : Hp) (R : It → Hp → Prop) : Prop := ∃ a, x = .ref a ∧ (∃ xs, SqT K H1 a xs) ∧ R (Itt K a) H1
theorem v_itH {K : PySem.W.Frag} {te : TE} {σ : L2.St} {H : Hp} {R : It → Hp → Prop} (h : te σ H fun x H1 => ItH K x H1 R) : iTupH K te σ H R := h
theorem v_itH_t {K : PySem.W.Frag} {H : Hp} {R : It → Hp → Prop} {a : Addr} {xs : List V} (hl : SqT K H a xs) (h : R (Itt K a) H) : ItH K (.ref a) H R := ⟨a, rfl, ⟨xs, hl⟩, h⟩
end RT

/-! ## 24. tuples whose object is known; dict of a tuple of pairs; sorted of a dict's items -/
namespace RT
open PySem PySem.Spec PyProof.Rows L2
/-- a tuple whose object has no dict -/
def FzT (H : Hp) (a : Addr) (xs : List V) : Prop := ∃ o : Obj, H a = some (.frz o (.tup xs)) ∧ o.dict = none
theorem FzT.sq {K : PySem.W.Frag} {H : Hp} {a : Addr} {xs : List V} (h : FzT H a xs) : SqT K H a xs := by
  obtain ⟨o, e, _⟩ := h
  exact .inl (.inr ⟨o, e⟩)
theorem FzT.on {S : List Addr} {H H' : Hp} {a : Addr} {xs : List V} (h : FzT H a xs) (c : Chg S H H') (n : a ∉ S) : FzT H' a xs := by
  obtain ⟨o, e, d⟩ := h
  exact ⟨o, c.keep e n, d⟩
theorem FzT.at {H H' : Hp} {a : Addr} {xs : List V} (h : FzT H a xs) (c : Chg [] H H') : FzT H' a xs := h.on c (by simp)
def uTupleF (K : PySem.W.Frag) : List V → Hp → VK → Prop := fun xs H Q => ∃ p ys, xs = [.ref p] ∧ SqL K H p ys ∧ ∀ l o, H l = none → o.dict = none → Q (.ref l) (upd H l (.frz o (.tup ys)))
theorem call_utupleF {X : Cx} {K : PySem.W.Frag} (hK : X.K = K := by rfl) : CallR X (.type "tuple") (uTupleF K) := by
  subst hK
  intro pins s σ H xs us Q I r h
  obtain ⟨p, ys, rfl, hq, q⟩ := h
  obtain ⟨u, rfl, rx⟩ := vals1 r
  cases rx
  obtain ⟨its, r', pl, hz⟩ := I.list hq
  have hlen := r'.length
  refine call_tuple_list pl.isList (fun h' kp => ?_) (by simp only [List.size_toArray] <;> omega)
  have I1 : Inv X pins σ H { s with heap := h' } := I.kept (t' := s.toks) kp
  have I2 : Inv X pins σ (upd H h'.objs.size (.frz { cls := .type "tuple", data := .seq its.toArray } (.tup ys))) { s with heap := h'.push { cls := .type "tuple", data := .seq its.toArray } } :=
    I1.laid (t' := s.toks) (fun b o e => Heap.get?_push_of_some _ e) (Nat.le_refl _) (show ObjOk X.prog X.w _ _ _ (.frz _ (.tup ys)) from ⟨Heap.get?_push_size _ rfl, hz, its, r', IsTup.new _ _⟩)
  exact ⟨.ref h'.objs.size, _, I2, rfl, q _ _ (I1.hok.fresh (Nat.le_refl _)) rfl⟩
/-- () as such a tuple -/
def NewF (xs : List V) (H : Hp) (Q : VK) : Prop := xs.length ≤ sizeLine ∧ ∀ p o, H p = none → o.dict = none → Q (.ref p) (upd H p (.frz o (.tup xs)))
def tTupF (t : TA) : TE := fun σ H Q => t σ H fun xs H1 => NewF xs H1 Q
theorem pe_tupF {X : Cx} {es : List Expr} {t : TA} {pos : Pos} {x1} (h : PA X es t) : PE X (.Tuple es x1 pos) (tTupF t) := by
  refine ⟨fun pins s σ H Q I hq => ?_⟩
  refine wpAny_Tuple_spliced (thn (h.run pos pins s σ H _ I hq) fun us s1 ⟨xs, H1, I1, r, z, q⟩ => ⟨by rw [← r.length]; exact z, ?_⟩)
  have hf : H1 s1.heap.objs.size = none := I1.hok.fresh (Nat.le_refl _)
  refine ⟨.ref s1.heap.objs.size, upd H1 s1.heap.objs.size (.frz { cls := .type "tuple", data := .seq us.toArray } (.tup xs)), I1.laid (t' := s1.toks) (fun b u e => Heap.get?_push_of_some _ e) (Nat.le_refl _) ?_, rfl, q _ _ hf rfl⟩
  exact ⟨Heap.get?_push_size _ rfl, z, us, r, ⟨_, Heap.get?_push_size _ rfl, rfl, _, rfl⟩⟩
section
variable {H : Hp} {Q : VK} {K : PySem.W.Frag} {σ : L2.St}
theorem v_tupF {ta : TA} (h : ta σ H fun xs H1 => NewF xs H1 Q) : tTupF ta σ H Q := h
theorem v_newF {xs : List V} (hl : xs.length ≤ sizeLine) (h : ∀ p H', H p = none → Chg [] H H' → FzT H' p xs → Q (.ref p) H') : NewF xs H Q :=
  ⟨hl, fun p o hp ho => h p _ hp (.new hp) ⟨o, upd_same, ho⟩⟩
theorem v_tupleF {a : Addr} {xs : List V} (e : SqL K H a xs) (q : ∀ p H', H p = none → Chg [] H H' → FzT H' p xs → Q (.ref p) H') : uTupleF K [.ref a] H Q :=
  ⟨a, xs, rfl, e, fun p o hp ho => q p _ hp (.new hp) ⟨o, upd_same, ho⟩⟩
end
/-! dict(t) -/
def uDictT (K : PySem.W.Frag) : List V → Hp → VK → Prop := fun xs H Q => ∃ (a : Addr) (ps : List Addr) (kvs : List (Key × V)), xs = [.ref a] ∧ FzT H a (ps.map V.ref) ∧ Paired (fun p kv => SqT K H p [kV kv.1, kv.2]) ps kvs ∧
  ∀ p, H p = none → Q (.ref p) (upd H p (.dK (mergeK [] kvs)))
theorem call_udictT {X : Cx} {K : PySem.W.Frag} (hcalm : X.calm = true) (hK : X.K = K := by rfl) : CallR X (.type "dict") (uDictT K) := by
  subst hK
  intro pins s σ H xs us Q I r q
  obtain ⟨a, ps, kvs, ex, ⟨o, ha, hdn⟩, hp, q⟩ := q
  subst ex
  obtain ⟨u, eu, rx⟩ := vals1 r
  subst eu
  cases rx
  obtain ⟨ho, hz, its, rv, o', ho', hc, n, hdat⟩ := (show ObjOk X.prog X.w H s.heap a (.frz o (.tup (ps.map V.ref))) from I.hok a _ ha)
  obtain rfl : o' = o := by rw [ho] at ho'; cases ho'; rfl
  have ei := refs_at rv
  subst ei
  rw [List.length_map] at hz
  obtain ⟨prs, rel, hl, hpr⟩ := pairs_of I hp
  let vps : List (Value × Value) := (List.range prs.length).map fun j => match prs[j]? with
    | some q => ((match ps[j]? with | some b => (match s.heap.get? b with | some ob => (match ob.data with | .seq ys _ => ys[0]?.getD .none | _ => .none) | none => .none) | none => .none), q.2)
    | none => (.none, .none)
  have hv : ∀ (j : Nat) (q : Key × Value), prs[j]? = some q → ∃ (b : Addr) (u : Value), ps[j]? = some b ∧ IsTup s.heap b #[u, q.2] ∧ keyIs q.1 u = true ∧ vps[j]? = some (u, q.2) := by
    intro j q e
    obtain ⟨b, u, e1, e2, e3⟩ := hpr j q e
    refine ⟨b, u, e1, e2, e3, ?_⟩
    have hj : j < prs.length := (List.getElem?_eq_some_iff.mp e).1
    show ((List.range prs.length).map _)[j]? = _
    rw [List.getElem?_map, List.getElem?_range hj]
    obtain ⟨ob, h1, h2, m, h3⟩ := e2
    simp only [Option.map_some, e, e1, h1, h3]
    rfl
  have hvl : vps.length = prs.length := by show ((List.range prs.length).map _).length = _; rw [List.length_map, List.length_range]
  let Ts : Nat → Addr := fun j => ps[j]?.getD 0
  refine PySem.call_dict_pairs (knd := mixKind X.prog X.w) (kvs := prs) (PairArg.tuple a (ps.map Value.ref).toArray Ts vps) (I.ok.hd hcalm) ⟨⟨o', n, ho, hc, hdn, hdat⟩, ?_, fun j k v hj => ?_⟩ ⟨hvl.symm, fun i key v hi => ?_⟩ (by rw [hvl, hl]; exact hz) fun h' tk hd' k => ?_
  · simp [hvl, hl]
  · have hj2 : j < prs.length := by rw [← hvl]; exact (List.getElem?_eq_some_iff.mp hj).1
    obtain ⟨q, hq⟩ : ∃ q, prs[j]? = some q := ⟨_, List.getElem?_eq_getElem hj2⟩
    obtain ⟨b, u, e1, e2, e3, e4⟩ := hv j q hq
    rw [e4] at hj
    cases hj
    have : Ts j = b := by show ps[j]?.getD 0 = b; rw [e1]; rfl
    refine ⟨by rw [this]; simp [e1], ?_⟩
    rw [this]
    exact .inl e2
  · have hj2 : i < prs.length := by rw [← hvl]; exact (List.getElem?_eq_some_iff.mp hi).1
    obtain ⟨q, hq⟩ : ∃ q, prs[i]? = some q := ⟨_, List.getElem?_eq_getElem hj2⟩
    obtain ⟨b, u, e1, e2, e3, e4⟩ := hv i q hq
    have hi' : vps[i]? = some (key, v) := hi
    rw [e4] at hi'
    cases hi'
    exact ⟨q.1, hq, e3⟩
  · have hm : (s.heap.objs.size == sysModules) = false := beq_eq_false_iff_ne.mpr (Nat.ne_of_gt I.big)
    have hlen : (mergeK [] kvs).length ≤ sizeLine := by
      refine Nat.le_trans (length_mergeK kvs []) ?_
      rw [List.length_nil, Nat.zero_add, rel.length, hl]
      exact hz
    exact ⟨.ref s.heap.objs.size, upd H s.heap.objs.size (.dK (mergeK [] kvs)), I.laid (t' := tk) (fun b o e => k b o (by simp) e) (Nat.le_refl _) (show ObjOk X.prog X.w _ _ _ (.dK (mergeK [] kvs)) from ⟨hlen, hm, merged [] prs, KV.merge rel .nil, hd'⟩), rfl, q _ (I.hok.fresh (Nat.le_refl _))⟩
end RT

/-! ## 26. sorted of the items of a dict with texts as its keys -/
namespace RT
open PySem PySem.Spec PyProof.Rows L2 L2.DX
def rItemsK : V → List V → Hp → VK → Prop := fun x xs H Q => ∃ (a : Addr) (kvs : List (Key × V)), x = .ref a ∧ xs = [] ∧ H a = some (.dK kvs) ∧ ∀ p, H p = none → Q (.ref p) (upd H p (itemsO p a))
theorem mt_itemsK {X : Cx} : MtR X "dict.items" rItemsK := by
  intro pins s σ H x xs v us Q I rx rxs h
  obtain ⟨a, kvs, rfl, rfl, ha, q⟩ := h
  cases rx
  cases rxs
  obtain ⟨hz, hs0, vs, kv, o, es, ep, ho, hx, hdat, hk, hp, hn⟩ := I.hok a _ ha
  refine DT.callItems (es := es) (ep := ep) hs0 ⟨o, ho, hx, hdat⟩ ?_
  have hf : H s.heap.objs.size = none := I.hok.fresh (Nat.le_refl _)
  exact ⟨.ref s.heap.objs.size, upd H s.heap.objs.size (itemsO s.heap.objs.size a), I.laid (t' := s.toks) (fun b u e => Heap.get?_push_of_some _ e) (Nat.le_refl _) (itemsO_ok (Heap.get?_push_size _ rfl)), rfl, q _ hf⟩
def rSortIK : List V → Hp → VK → Prop := fun vs H Q => ∃ (p a : Addr) (kvs : List (Key × V)), vs = [.ref p] ∧ H p = some (itemsO p a) ∧ H a = some (.dK kvs) ∧ (∀ q ∈ kvs, ∃ z t, q = (.inr z, .ref t)) ∧
  ∀ (H' : Hp) (l : Addr) (kvs' : List (Key × V)) (ts : List Addr), Chg [] H H' → H l = none → kvs'.Perm kvs → (kvs'.map (·.1)).Pairwise (fun x y => keyLt x y = true) → H' l = some (.lst (ts.map V.ref)) →
    Paired (fun t q => H' t = some (.tup [kV q.1, q.2])) ts kvs' → Q (.ref l) H'
theorem sortableC {h0 : Heap} {its : List Value} {k : V → List V} {lt : V → V → Bool} (hT : ∀ v ∈ its, TupAt h0 v (k (bkV v))) (hf : ∀ v ∈ its, ∃ z r, k (bkV v) = .str z :: r)
    (hlt : ∀ v ∈ its, ∀ u ∈ its, LexV (k (bkV v)) (k (bkV u)) = some (lt (bkV v) (bkV u))) {prog : Program} {w : World} {A : Around} {s1 : Shared} {a' : Addr} (hn : its.length ≥ 2)
    (kk : ∀ b o, h0.get? b = some o → b ≠ a' ∧ s1.heap.get? b = some o) : SrtO.SortableO prog w A s1 a' its (fun v u => lt (bkV v) (bkV u)) := by
  intro h' keep
  have keep2 : ∀ b o, h0.get? b = some o → o.cls = .type "tuple" → h'.get? b = some o := fun b o e _ => keep b o (kk b o e).1 (kk b o e).2
  have hT' : ∀ v ∈ its, TupAt h' v (k (bkV v)) := fun v hv => (hT v hv).keeps keep2
  have hc : SrtO.Cmp prog w A { s1 with heap := h' } (tuples' true) (fun p => p.1 ∈ its) (SrtO.lt2 fun v u : Value => lt (bkV v) (bkV u)) := by
    intro p q hp hq
    obtain ⟨t, ts, et, rt, o, ho, hc, n, hd⟩ := hT' _ hp
    obtain ⟨t2, ts2, et2, rt2, o2, ho2, hc2, n2, hd2⟩ := hT' _ hq
    have hl := hlt _ hp _ hq
    show wpAny _ _ (keyLt' (tuples' true) p.1 q.1) (fun r s' => s' = _ ∧ r = lt (bkV p.1) (bkV q.1)) (fun _ _ => False) _
    generalize lt (bkV p.1) (bkV q.1) = b at hl
    rw [et, et2]
    refine PySem.W.kat_lt ho hd ho2 hd2 ?_
    exact lexV_at 0 rt rt2 hl (by simp) ⟨rfl, rfl⟩
  refine ⟨tuples' true, fun Q' E' hq => ?_, hc⟩
  obtain ⟨fs, g1, g2, g3⟩ := firstsC (f := fun z => ∃ y, z = .str y) (k := fun v => k (bkV v)) fun v hv => ⟨hT' v hv, by
    obtain ⟨z, r, e⟩ := hf _ hv
    exact ⟨_, _, ⟨z, rfl⟩, e⟩⟩
  refine PySem.W.kat_kind (T := .type "str") g1 (by omega) (fun f hm => ?_) (by rfl) ?_
  · obtain ⟨z, ⟨y, rfl⟩, t, rfl⟩ := g3 f hm
    exact PySem.W.Looks.now
  · have e : (Value.type "str" != Value.type "tuple") = true := by first | decide +kernel | rfl | decide
    rw [e]
    exact hq
def lookA (L : List (Addr × Key × V)) (a : Addr) : Key × V := ((L.find? fun z => decide (z.1 = a)).map (·.2)).getD (.inl 0, .non)
def lookV (L : List (Addr × Key × V)) (x : V) : Key × V := match x with
  | .ref a => lookA L a
  | _ => (.inl 0, .non)
theorem lookA_at : ∀ {as : List Addr} {kvs : List (Key × V)} {j : Nat} {a : Addr} {q : Key × V}, as.Nodup → as[j]? = some a → kvs[j]? = some q → lookA (as.zip kvs) a = q
  | [], _, j, _, _, _, h, _ => by simp at h
  | _ :: _, [], j, _, _, _, _, h => by simp at h
  | b :: as, p :: kvs, j, a, q, hn, h1, h2 => by
    rw [List.nodup_cons] at hn
    cases j with
    | zero =>
      simp at h1 h2
      subst h1 h2
      simp [lookA]
    | succ j =>
      simp at h1 h2
      have ne : ¬ b = a := fun e => hn.1 (e ▸ List.mem_of_getElem? h1)
      have := lookA_at hn.2 h1 h2
      unfold lookA at this ⊢
      rw [List.zip_cons_cons, List.find?_cons_of_neg (by simpa using ne)]
      exact this
theorem map_lookA {as : List Addr} {kvs : List (Key × V)} (hn : as.Nodup) (hl : as.length = kvs.length) : as.map (lookA (as.zip kvs)) = kvs := by
  apply List.ext_getElem?
  intro j
  rw [List.getElem?_map]
  cases h : as[j]? with
  | none =>
    rw [List.getElem?_eq_none_iff] at h
    rw [List.getElem?_eq_none (by omega)]
    rfl
  | some a =>
    have : j < kvs.length := by have := (List.getElem?_eq_some_iff.mp h).1; omega
    have e : kvs[j]? = some kvs[j] := List.getElem?_eq_getElem this
    rw [e]
    exact congrArg some (lookA_at hn h e)
theorem perm_refs {as : List Addr} : ∀ {out : List Value}, out.Perm (as.map Value.ref) → ∃ bs : List Addr, bs.Perm as ∧ out = bs.map Value.ref := by
  intro out h
  let f : Value → Addr := fun v => match v with | .ref a => a | _ => 0
  have e1 : (as.map Value.ref).map f = as := by rw [List.map_map]; exact List.map_id _
  refine ⟨out.map f, e1 ▸ h.map f, ?_⟩
  rw [List.map_map]
  symm
  have : ∀ v ∈ out, (Value.ref ∘ f) v = v := fun v hv => by
    obtain ⟨a, _, rfl⟩ := List.mem_map.mp (h.mem_iff.mp hv)
    rfl
  rw [List.map_congr_left this, List.map_id']
theorem paired_map {α β : Type} {F : α → β → Prop} {f : α → β} : ∀ {xs : List α}, (∀ x ∈ xs, F x (f x)) → Paired F xs (xs.map f)
  | [], _ => .nil
  | x :: xs, h => .cons (h x List.mem_cons_self) (paired_map fun y hy => h y (List.mem_cons_of_mem _ hy))
theorem pairs_get {prog : Program} {w : World} {es : List DictEntry} {vs : List (Key × Value)} (hp : PySem.Pairs (mixKind prog w) es vs) : ∀ {j : Nat} {e : DictEntry}, es[j]? = some e → ∃ kv, vs[j]? = some kv ∧ keyIs kv.1 e.key = true ∧ e.val = kv.2 := by
  induction hp with
  | nil => intro j e h; simp at h
  | cons h1 h2 t ih =>
    intro j e he
    cases j with
    | zero => simp at he; subst he; exact ⟨_, by simp, h1, h2⟩
    | succ j => simp at he; simpa using ih he
theorem pairs_len {prog : Program} {w : World} {es : List DictEntry} {vs : List (Key × Value)} (hp : PySem.Pairs (mixKind prog w) es vs) : es.length = vs.length := by
  induction hp with
  | nil => rfl
  | cons _ _ _ ih => rw [List.length_cons, List.length_cons, ih]
theorem kv_keys {kvs : List (Key × V)} {vs : List (Key × Value)} (kv : KV kvs vs) : kvs.map (·.1) = vs.map (·.1) := by
  induction kv with
  | nil => rfl
  | cons h _ ih => rw [List.map_cons, List.map_cons, ih, h.1]
theorem cr_sortedItemsK {X : Cx} (hc : X.calm = true) : CallR X (.builtin "sorted") rSortIK := by
  intro pins s σ H xs us Q I r h
  obtain ⟨p, a, kvs, rfl, hp, ha, hkv, q⟩ := h
  obtain rfl := Vals.ref1 r
  have view : s.heap.IsItemsView p a := (show ObjOk X.prog X.w H s.heap p (itemsO p a) from I.hok p _ hp).1
  obtain ⟨hz, hs0, vs, kv, o, es, ep, ho, hx, hdat, hko, hpr, hnd⟩ := I.hok a _ ha
  have l1 : es.size = kvs.length := by
    have := pairs_len hpr
    rw [Array.length_toList] at this
    rw [this, kv.length]
  have hh : X.A.handled = none := I.ok.hd hc
  refine DT.sortedI (es := es) (ep := ep) hh view ⟨o, ho, hx, hdat⟩ (by omega) fun h' tk as hk hlt hl hG => ?_
  have lak : as.length = kvs.length := by omega
  have nd : as.Nodup := List.Pairwise.imp (fun h => Nat.ne_of_lt h) hG.rise
  have L := @map_lookA as kvs nd lak
  -- the pairs that were made
  have pr : ∀ b ∈ as, ∃ (z : Str) (t : Tok) (v : Addr), lookA (as.zip kvs) b = (.inr z, .ref v) ∧ h'.get? b = some { cls := .type "tuple", data := .seq #[Value.str z t, Value.ref v] } ∧ lookA (as.zip kvs) b ∈ kvs := by
    intro b hb
    obtain ⟨j, hj⟩ := List.mem_iff_getElem?.mp hb
    obtain ⟨en, he, hg⟩ := hG.pairs j b hj
    obtain ⟨kw, hkw, hki, hve⟩ := pairs_get hpr (by rw [Array.getElem?_toList]; exact he)
    have hjl : j < kvs.length := by have := (List.getElem?_eq_some_iff.mp hj).1; omega
    have ekv : kvs[j]? = some kvs[j] := List.getElem?_eq_getElem hjl
    obtain ⟨kw', hkw', ek, rv⟩ := LiI.paired_get kv ekv
    rw [hkw] at hkw'
    cases hkw'
    obtain ⟨z, t, eq⟩ := hkv _ (List.getElem_mem hjl)
    rw [eq] at ek rv
    have ek' : kw.1 = .inr z := ek.symm
    have rv' : kw.2 = Value.ref t := rv
    rw [ek'] at hki
    obtain ⟨i, t', c, _⟩ | ⟨z', t', c, ez⟩ := keyIs_shape hki
    · cases c
    · cases c
      have lk := lookA_at nd hj ekv
      rw [eq] at lk
      refine ⟨z, t', t, lk, ?_, ?_⟩
      · rw [hg, ez, hve, rv']
      · rw [lk, ← eq]; exact List.getElem_mem hjl
  have hob : (h'.push { cls := .type "list", data := .seq (as.map Value.ref).toArray }).get? h'.objs.size = some (seqObj "list" (as.map Value.ref).toArray 0) := Heap.get?_push_size _ rfl
  have kb : ∀ b o, s.heap.get? b = some o → (h'.push { cls := .type "list", data := .seq (as.map Value.ref).toArray }).get? b = some o := fun b o e => Heap.get?_push_of_some _ (hk b o e)
  have ne0 : ∀ b o, h'.get? b = some o → b ≠ h'.objs.size := fun b o e => Nat.ne_of_lt (Heap.lt_size e)
  generalize hh2 : h'.push { cls := .type "list", data := .seq (as.map Value.ref).toArray } = h2 at hob kb ⊢
  have ka : ∀ b o, h'.get? b = some o → h2.get? b = some o := fun b o e => by rw [← hh2]; exact Heap.get?_push_of_some _ e
  have hT : ∀ v ∈ as.map Value.ref, TupAt h' v [kV (lookV (as.zip kvs) (bkV v)).1, (lookV (as.zip kvs) (bkV v)).2] := by
    intro v hv
    obtain ⟨b, hb, rfl⟩ := List.mem_map.mp hv
    obtain ⟨z, t, x, e1, e2, _⟩ := pr b hb
    show TupAt h' (.ref b) [kV (lookA (as.zip kvs) b).1, (lookA (as.zip kvs) b).2]
    rw [e1]
    exact ⟨b, [Value.str z t, Value.ref x], rfl, .cons ⟨t, rfl⟩ (.cons rfl .nil), ⟨_, e2, rfl, 0, rfl⟩⟩
  have hlt' : ∀ v ∈ as.map Value.ref, ∀ u ∈ as.map Value.ref, LexV [kV (lookV (as.zip kvs) (bkV v)).1, (lookV (as.zip kvs) (bkV v)).2] [kV (lookV (as.zip kvs) (bkV u)).1, (lookV (as.zip kvs) (bkV u)).2] = some (lexK [(lookV (as.zip kvs) (bkV v)).1] [(lookV (as.zip kvs) (bkV u)).1]) := by
    intro v hv u hu
    obtain ⟨b, hb, rfl⟩ := List.mem_map.mp hv
    obtain ⟨c, hc', rfl⟩ := List.mem_map.mp hu
    obtain ⟨z, t, x, e1, _, m1⟩ := pr b hb
    obtain ⟨z2, t2, x2, e2, _, m2⟩ := pr c hc'
    show LexV [kV (lookA (as.zip kvs) b).1, (lookA (as.zip kvs) b).2] [kV (lookA (as.zip kvs) c).1, (lookA (as.zip kvs) c).2] = some (lexK [(lookA (as.zip kvs) b).1] [(lookA (as.zip kvs) c).1])
    have hndk : (kvs.map (·.1)).Nodup := by rw [kv_keys kv]; exact hnd
    by_cases ez : z = z2
    · subst ez
      have : lookA (as.zip kvs) b = lookA (as.zip kvs) c := by
        have a1 := valV_mem hndk m1
        have a2 := valV_mem hndk m2
        rw [e1] at a1
        rw [e2] at a2
        rw [e1, e2]
        rw [a1] at a2
        have : V.ref x = V.ref x2 := Option.some.inj a2
        rw [this]
      rw [this, e2]
      simp [LexV, lexK, kV]
    · rw [e1, e2]
      have : (Sum.inr z : Key) ≠ Sum.inr z2 := fun e => ez (Sum.inr.inj e)
      simp [LexV, lexK, kV, keyLt, ez]
  refine wpAny_call_entry PyProof.Rows.slot_list_sort ⟨_, hob, rfl⟩ PyProof.Rows.entry_list_sort
    (SrtO.list_sort_ord (s := { s with heap := h2, toks := tk }) (ltv := fun v u => lexK [(lookV (as.zip kvs) (bkV v)).1] [(lookV (as.zip kvs) (bkV u)).1]) (swo_bk (lt := fun v u => lexK [(lookV (as.zip kvs) v).1] [(lookV (as.zip kvs) u).1]) (swo_lexK fun v => [(lookV (as.zip kvs) v).1])) hob (by rw [List.length_map]; omega)
      (fun hn => sortableC (h0 := h') (k := fun v => [kV (lookV (as.zip kvs) v).1, (lookV (as.zip kvs) v).2]) (lt := fun v u => lexK [(lookV (as.zip kvs) v).1] [(lookV (as.zip kvs) u).1]) hT (fun v hv => by
        obtain ⟨b, hb, rfl⟩ := List.mem_map.mp hv
        obtain ⟨z, t, x, e1, _⟩ := pr b hb
        exact ⟨z, [.ref x], by show [kV (lookA (as.zip kvs) b).1, (lookA (as.zip kvs) b).2] = _; rw [e1]; rfl⟩) hlt' hn fun b o e => ⟨ne0 b o e, ka b o e⟩)
      fun out o1 o2 => ⟨.none, rfl, ?_⟩) (PyProof.Rows.args_list_sort _)
  show EP X pins σ Q (.ref h'.objs.size) { s with heap := sortedHeap h2 h'.objs.size (as.map Value.ref) out.toArray, toks := tk }
  obtain ⟨bs, pb, rfl⟩ := perm_refs o2.perm
  have kF : ∀ b o, b ≠ h'.objs.size → h2.get? b = some o → (sortedHeap h2 h'.objs.size (as.map Value.ref) (bs.map Value.ref).toArray).get? b = some o := fun b o hb e => (PyProof.Rows.sortedHeap_old hb (Heap.lt_size e)).trans e
  have kS : ∀ b o, s.heap.get? b = some o → (sortedHeap h2 h'.objs.size (as.map Value.ref) (bs.map Value.ref).toArray).get? b = some o := fun b o e => kF b o (ne0 _ _ (hk b o e)) (kb b o e)
  obtain ⟨eF, heF⟩ := PyProof.Rows.sortedHeap_at (vs := as.map Value.ref) (out := (bs.map Value.ref).toArray) hob
  have I1 : Inv X pins σ H { s with heap := sortedHeap h2 h'.objs.size (as.map Value.ref) (bs.map Value.ref).toArray, toks := tk } := I.kept (t' := tk) kS
  have hn0 : H h'.objs.size = none := I.hok.fresh (Nat.le_of_lt hlt)
  have hlen : (bs.map V.ref).length ≤ sizeLine := by rw [List.length_map, pb.length_eq]; omega
  have I2 : Inv X pins σ (upd H h'.objs.size (.lst (bs.map V.ref))) { s with heap := sortedHeap h2 h'.objs.size (as.map Value.ref) (bs.map Value.ref).toArray, toks := tk } :=
    I1.take (h' := sortedHeap h2 h'.objs.size (as.map Value.ref) (bs.map Value.ref).toArray) (t' := tk) (fun b ob _ e => e) (I.fpOk (Nat.le_of_lt hlt) hn0) ⟨hlen, bs.map Value.ref, eF, LiI.vals_refs bs, heF⟩
  obtain ⟨H2, I3, g, qt⟩ := takeT (P := fun b ys => ys = [kV (lookA (as.zip kvs) b).1, (lookA (as.zip kvs) b).2]) I as _ I2 nd fun b hb => by
    obtain ⟨z, t, x, e1, hg, _⟩ := pr b hb
    have hbl : s.heap.objs.size ≤ b := Nat.le_of_lt (hG.above b hb)
    refine ⟨hbl, ?_, _, rfl, fun H3 => ?_⟩
    · rw [upd_ne (ne0 _ _ hg)]
      exact I.hok.fresh hbl
    · rw [e1]
      exact ⟨(by rw [sizeLine_eq]; show 2 ≤ 16777216; omega), [Value.str z t, Value.ref x], .cons ⟨t, rfl⟩ (.cons rfl .nil), ⟨_, kF _ _ (ne0 _ _ hg) (ka _ _ hg), rfl, 0, rfl⟩⟩
  have gr : ∀ b o, H b = some o → H2 b = some o := fun b o e => g b o (by rw [upd_ne (ne_of_none e hn0)]; exact e)
  have gd : ∀ b, H2 b = none → H b = none := fun b e => by
    cases hb : H b with
    | none => rfl
    | some o => rw [gr b o hb] at e; cases e
  refine ⟨.ref h'.objs.size, H2, I3, rfl, q H2 h'.objs.size (bs.map (lookA (as.zip kvs))) bs ⟨fun e _ => gr _ _ e, fun e => gr _ _ e, gd _⟩ hn0 ?_ ?_ (g _ _ upd_same) (paired_map fun b hb => ?_)⟩
  · have := pb.map (lookA (as.zip kvs))
    rw [L] at this
    exact this
  · have hs := o1
    rw [SrtO.Srtd, List.pairwise_map] at hs
    rw [List.map_map, List.pairwise_map]
    have hn2 : bs.Nodup := pb.nodup_iff.mpr nd
    have both := hs.and hn2
    refine List.Pairwise.imp_of_mem (fun {x y} hx hy hxy => ?_) both
    obtain ⟨h1, h2'⟩ := hxy
    have hx' := pb.mem_iff.mp hx
    have hy' := pb.mem_iff.mp hy
    obtain ⟨z, t, v, e1, _, m1⟩ := pr x hx'
    obtain ⟨z2, t2, v2, e2, _, m2⟩ := pr y hy'
    have h1' : lexK [(lookA (as.zip kvs) y).1] [(lookA (as.zip kvs) x).1] = false := h1
    show keyLt (lookA (as.zip kvs) x).1 (lookA (as.zip kvs) y).1 = true
    have hndk : (kvs.map (·.1)).Nodup := by rw [kv_keys kv]; exact hnd
    have ne : (lookA (as.zip kvs) x).1 ≠ (lookA (as.zip kvs) y).1 := by
      intro e
      rw [← L, List.map_map] at hndk
      obtain ⟨i, hi, ei⟩ := List.getElem_of_mem hx'
      obtain ⟨j, hj, ej⟩ := List.getElem_of_mem hy'
      have hij : i = j := by
        refine (List.getElem?_inj (by rw [List.length_map]; exact hi) hndk).mp ?_
        rw [List.getElem?_map, List.getElem?_map, List.getElem?_eq_getElem hi, List.getElem?_eq_getElem hj, ei, ej]
        exact congrArg some e
      subst hij
      exact h2' (ei.symm.trans ej)
    rcases keyLt_tri ne with c | c
    · exact c
    · rw [lexK, if_neg (fun e => ne e.symm), c] at h1'
      cases h1'
  · obtain ⟨ys, e, hH⟩ := qt b (pb.mem_iff.mp hb)
    rw [hH, e]
end RT

/-! ## 27. a tuple turned about; texts walked; things of any kind -/
namespace RT
open PySem PySem.Spec PyProof.Rows L2 HT
section
variable {prog : Program} {w : World} {A : Around} {E : Value → Shared → Prop} {s : Shared}
theorem adjust_back (n : Nat) : Builtin.Slice.sliceAdjust none none (-1) (n : Int) = ((n : Int) - 1, -1) := by
  unfold Builtin.Slice.sliceAdjust
  rfl
theorem places_back (n : Nat) : Builtin.Slice.slicePlaces ((n : Int) - 1) (-1) (-1) = n := by
  unfold Builtin.Slice.slicePlaces
  have h1 : ¬ ((-1 : Int) > 0) := by omega
  simp only [h1, if_false]
  split
  · rw [show -(-1 : Int) = 1 from rfl, Int.ediv_one]; omega
  · omega
theorem pick_back (xs : List Value) : ((List.range xs.toArray.size).filterMap fun (m : Nat) => xs.toArray[((xs.toArray.size : Int) - 1 + (m : Int) * (-1)).toNat]?).toArray = xs.reverse.toArray := by
  congr 1
  rw [List.size_toArray]
  apply List.ext_getElem?
  intro i
  have key : ∀ n : Nat, n ≤ xs.length → ((List.range n).filterMap fun (m : Nat) => xs.toArray[((xs.length : Int) - 1 + (m : Int) * (-1)).toNat]?) = (xs.reverse).take n := by
    intro n
    induction n with
    | zero => intro _; rfl
    | succ n ih =>
      intro hn
      rw [List.range_succ, List.filterMap_append, ih (by omega)]
      have e : ((xs.length : Int) - 1 + (n : Int) * (-1)).toNat = xs.length - 1 - n := by omega
      obtain ⟨y, hx⟩ : ∃ y, xs[xs.length - 1 - n]? = some y := ⟨_, List.getElem?_eq_getElem (by omega)⟩
      rw [List.filterMap_cons, List.filterMap_nil, e, List.getElem?_toArray, hx]
      rw [List.take_add_one, List.getElem?_reverse (by omega), hx]
      rfl
  rw [key xs.length (Nat.le_refl _), List.take_of_length_le (by rw [List.length_reverse]; exact Nat.le_refl _)]
theorem sliceApplied_back {sl : Addr} {vl vu vs : Value} {n : Nat} {Q : Int × Int × Nat → Shared → Prop} (hs : s.heap.IsSliceOf sl vl vu vs) (pl : IsPart vl none) (pu : IsPart vu none) (ps : IsPart vs (some (-1)))
    (h : Q ((n : Int) - 1, -1, n) s) : wpAny (model prog w) A (Builtin.Slice.sliceApplied (.ref sl) (pure (n : Int))) Q E s := by
  obtain ⟨os, hos, hcs, hds⟩ := id hs
  unfold Builtin.Slice.sliceApplied Builtin.Slice.sliceFields
  refine wpAny_bind (wpAny_bind (wpAny_field hos hds (x := vl) rfl (wpAny_bind (wpAny_field hos hds (x := vu) rfl (wpAny_bind (wpAny_field hos hds (x := vs) rfl (wpAny_pure ?_)))))))
  refine wpAny_bind (slicePart_ ps ?_)
  show wpAny _ _ (if ((-1 : Int) == 0) = true then _ else _) _ _ s
  rw [if_neg (by decide)]
  refine wpAny_bind (slicePart_ pl (wpAny_bind (slicePart_ pu (wpAny_bind (wpAny_pure ?_)))))
  show wpAny _ _ (match Builtin.Slice.sliceAdjust none none (-1) (n : Int) with | (lo, hi) => pure (lo, (-1 : Int), Builtin.Slice.slicePlaces lo hi (-1))) _ _ s
  rw [adjust_back n]
  show wpAny _ _ (pure ((n : Int) - 1, (-1 : Int), Builtin.Slice.slicePlaces ((n : Int) - 1) (-1) (-1))) _ _ s
  rw [places_back]
  exact wpAny_pure h
theorem getItem_tuple_back {t sl : Addr} {items : List Value} {vl vu vs : Value} {Q : Value → Shared → Prop} (ht : IsTup s.heap t items.toArray) (hs : s.heap.IsSliceOf sl vl vu vs) (pl : IsPart vl none) (pu : IsPart vu none) (ps : IsPart vs (some (-1)))
    (h : Q (.ref s.heap.objs.size) { s with heap := s.heap.push { cls := .type "tuple", data := .seq items.reverse.toArray } })
    (hsz : items.length ≤ sizeLine) : wpAny (model prog w) A (getItem (.ref t) (.ref sl)) Q E s := by
  have htake : sizeOk (.seq items.reverse.toArray) := by
    show items.reverse.toArray.size ≤ sizeLine
    rw [List.size_toArray, List.length_reverse]
    exact hsz
  obtain ⟨os, hos, hcs, hds⟩ := id hs
  have hTs : s.TypeIs (.ref sl) "slice" := ⟨os, hos, hcs⟩
  unfold getItem
  try with_reducible refine wpAny_holding ?_
  first | refine wpAny_bind (wpAny_pure ?_) | skip
  refine wpAny_bind (wpAny_sequenceKey ht.typeIs (by decide) ?_)
  refine wpAny_bind (wpAny_callSpecial?_slot (name := Str.ofString "__getitem__") ht.typeIs PyProof.Rows.slot_tuple_getitem
    (wpAny_call_entry PyProof.Rows.slot_tuple_getitem ht.typeIs entry_tuple_getitem ?_ (args_tuple_getitem _ _)))
  show wpAny _ _ (Builtin.Tuple.tupleItemsOf (.ref t) >>= _) _ _ s
  refine wpAny_bind (tupleItemsOf_ ht ?_)
  refine wpAny_bind (wpAny_typeOf hTs ?_)
  rw [if_pos (by decide)]
  refine wpAny_bind (sliceApplied_back hs pl pu ps ?_)
  have hno : ¬ ((((items.toArray.size : Int) - 1) == 0 && (-1 : Int) == 1 && items.toArray.size == items.toArray.size) = true) := by
    simp
  show wpAny _ _ (if (((items.toArray.size : Int) - 1) == 0 && (-1 : Int) == 1 && items.toArray.size == items.toArray.size) = true then _ else _) _ _ s
  rw [if_neg hno, pick_back]
  first
    | exact wpAny_bind (m := Builtin.Tuple.tupleExact _) (wpAny_newObj_type (wpAny_pure ⟨_, rfl, wpAny_pure h⟩) htake)
    | exact wpAny_bind (m := Builtin.Tuple.tupleExact _) (wpAny_newObj_type (wpAny_bind (wpAny_pure (wpAny_pure ⟨_, rfl, wpAny_pure h⟩))) htake)
    | exact wpAny_bind (wpAny_bind (m := Builtin.Tuple.tupleExact _) (wpAny_newObj_type (wpAny_pure (wpAny_pure ⟨_, rfl, wpAny_pure h⟩)) htake))
    | exact wpAny_bind (wpAny_bind (m := Builtin.Tuple.tupleExact _) (wpAny_newObj_type (wpAny_pure ⟨_, rfl, wpAny_pure h⟩) htake))
end
def BackT (K : PySem.W.Frag) (x : V) (H1 : Hp) (Q : VK) : Prop := ∃ a xs, x = .ref a ∧ SqT K H1 a xs ∧ ∀ p, H1 p = none → Q (.ref p) (upd H1 p (.tup xs.reverse))
def tRevT (K : PySem.W.Frag) (te : TE) : TE := fun σ H Q => te σ H fun x H1 => BackT K x H1 Q
theorem pe_revT {X : Cx} {K : PySem.W.Frag} {e : Expr} {te : TE} {k : Nat} {p1 p2 p3 pos : Pos} (he : PE X e te) (hK : X.K = K := by rfl) : PE X (.Subscript e (.Slice none none (some (.UnaryOp .USub (.Constant (.int 1) k p1) p2)) p3) pos) (tRevT K te) := by
  subst hK
  refine ⟨fun pins s σ H Q I h => ?_⟩
  refine Subscript_ (thn (he.run pins s σ H _ I h) fun v s1 ⟨x, H1, I1, r1, q1⟩ => ?_)
  obtain ⟨a, xs, ex, hx, q⟩ := q1
  subst ex
  cases r1
  have hst : PO X (some (.UnaryOp .USub (.Constant (.int 1) k p1) p2)) (tPart (tUn (rU fun i => .int (-i)) (tC (.int 1)))) := po_some (pe_un un_neg pe_int)
  refine wpAny_Slice (thn (po_none.run pins s1 σ H1 (fun o H2 => o = none ∧ H2 = H1) I1 ⟨rfl, rfl⟩) fun vl s2 ⟨l, H2, I2, pl, el, e2⟩ => ?_)
  subst el e2
  refine thn (po_none.run pins s2 σ H2 (fun o H3 => o = none ∧ H3 = H2) I2 ⟨rfl, rfl⟩) fun vu s3 ⟨u, H3, I3, pu, eu, e3⟩ => ?_
  subst eu e3
  refine thn (hst.run pins s3 σ H3 (fun o H4 => o = some (-1) ∧ H4 = H3) I3 ⟨1, rfl, -1, rfl, rfl, rfl⟩) fun vs s4 ⟨o, H4, I4, ps, eo, e4⟩ => ?_
  subst eo e4
  have I5 : Inv X pins σ H4 { s4 with heap := s4.heap.push { cls := .type "slice", data := .fields #[vl, vu, vs] } } := I4.kept (t' := s4.toks) fun b ob q => Heap.get?_push_of_some _ q
  obtain ⟨its, r, ht, hz⟩ := I5.tuple hx
  have hlen := r.length
  show wpAny (model X.prog X.w) X.A (subscriptTail e (.Slice none none (some (.UnaryOp .USub (.Constant (.int 1) k p1) p2)) p3) (.ref a) (.ref s4.heap.objs.size)) (EP X pins σ Q) X.xe { s4 with heap := s4.heap.push { cls := .type "slice", data := .fields #[vl, vu, vs] } }
  have htt : (({ s4 with heap := s4.heap.push { cls := .type "slice", data := .fields #[vl, vu, vs] } } : Shared)).TypeIs (.ref a) "tuple" := IsTup.typeIs ht
  refine tail_any (ops := [.ref a, .ref s4.heap.objs.size]) htt (PyProof.Rows.slot_tuple_getitem.lookup) ?_ (by with_unfolding_all rfl)
  refine getItem_tuple_back ht (Heap.IsSliceOf.new _ vl vu vs) pl pu ps ?_ (by omega)
  refine ⟨.ref _, _, I5.laid (t' := s4.toks) (o := .tup xs.reverse) (fun b ob q => Heap.get?_push_of_some _ q) (Nat.le_refl _) ?_, rfl, q _ (I5.hok.fresh (Nat.le_refl _))⟩
  exact ⟨by rw [List.length_reverse]; omega, _, r.reverse, ⟨_, Heap.get?_push_size _ rfl, rfl, 0, rfl⟩⟩
theorem v_revT {K : PySem.W.Frag} {te : TE} {σ : L2.St} {H : Hp} {Q : VK} (h : te σ H fun x H1 => BackT K x H1 Q) : tRevT K te σ H Q := h
theorem v_backT {K : PySem.W.Frag} {H : Hp} {Q : VK} {a : Addr} {xs : List V} (h : SqT K H a xs) (q : ∀ p H', H p = none → Chg [] H H' → H' p = some (.tup xs.reverse) → Q (.ref p) H') : BackT K (.ref a) H Q :=
  ⟨a, xs, rfl, h, fun p hp => q p _ hp (.new hp) upd_same⟩
/-! a text, sign by sign -/
section
variable {g : TG} {tb : TS} {n : L2.St → Hp → Prop} {r : VK} {b c : L2.St → Hp → Prop} {σ : L2.St} {H : Hp}
theorem v_for_str {z : Str} (Pv : Nat → L2.St → Hp → Prop) (h0 : Pv 0 σ H)
    (hs : ∀ i x σ H, z.cps.toList[i]? = some x → Pv i σ H → g (.str ⟨#[x]⟩) σ H fun σ2 H2 => tb ⟨Pv (i + 1), r, n, Pv (i + 1)⟩ σ2 H2) (hd : ∀ σ H, Pv z.length σ H → n σ H) : ForQ (Its z) g tb ⟨n, r, b, c⟩ σ H := by
  refine ⟨fun i m σ H => m = z.length - i ∧ i ≤ z.length ∧ Pv i σ H, ⟨z.length, by simp, Nat.zero_le _, h0⟩, ?_⟩
  rintro i m σ H ⟨rfl, hi, p⟩
  by_cases hlt : i < z.length
  · refine .inr ⟨hlt, Pv (i + 1), fun σ' H' p' => ⟨z.length - (i + 1), by omega, rfl, hlt, p'⟩, fun x H' y => ?_⟩
    obtain ⟨e, c, hc, rfl⟩ := y
    subst e
    exact hs i c σ _ (by rw [Array.getElem?_toList]; exact hc) p
  · have e : i = z.length := by omega
    subst e
    exact .inl ⟨Nat.le_refl _, hd σ H p⟩
theorem v_lc_str {z : Str} {tt : TT} {te : TE} {vs : List Nat} {Q : VK} (S : List Addr) (Pv : Nat → List V → Hp → Prop) (hS : ∀ b ∈ S, H b ≠ none)
    (h0 : ∀ H', Chg [] H H' → Pv 0 [] H')
    (hs : ∀ D i x acc H1, z.cps.toList[i]? = some x → H D = none → D ∉ S → Chg S H H1 → H1 D = some (.lst acc) → Pv i acc H1 → g (.str ⟨#[x]⟩) (wipe σ vs) H1 fun σ2 H2 => wipe σ2 vs = wipe σ vs ∧ tt σ2 H2 fun k H3 =>
      if k = true then te σ2 H3 fun y H4 => LcA D (LcI S H D Pv (i + 1)) y H4 else LcI S H D Pv (i + 1) H3)
    (hd : ∀ D acc H', Chg S H H' → H D = none → H' D = some (.lst acc) → Pv z.length acc H' → Q (.ref D) H') : LcQ (Its z) g tt te vs σ H Q := by
  intro D hD
  have dS : D ∉ S := fun m => hS D m hD
  refine ⟨fun i m H' => m = z.length - i ∧ i ≤ z.length ∧ LcI S H D Pv i H', ⟨z.length, by simp, Nat.zero_le _, [], (Chg.new hD).of0, upd_same, h0 _ (.new hD)⟩, ?_⟩
  rintro i m H1 ⟨rfl, hi, acc, c, e, p⟩
  by_cases hlt : i < z.length
  · refine .inr ⟨hlt, LcI S H D Pv (i + 1), fun H' p' => ⟨z.length - (i + 1), by omega, rfl, hlt, p'⟩, fun x H' y => ?_⟩
    obtain ⟨e1, x', hx, rfl⟩ := y
    subst e1
    exact hs D i x' acc _ (by rw [Array.getElem?_toList]; exact hx) hD dS c e p
  · have e1 : i = z.length := by omega
    subst e1
    exact .inl ⟨Nat.le_refl _, hd D acc H1 c hD e p⟩
end
end RT

/-! ## 28. lists of unlike lengths are unlike -/
namespace PySem.SeqAt
open AutoSeq1 (wpAny_loadPart')
open MeetsSeq MeetsSeq2 MeetsSeq3 SeqRoads2
section
variable {prog : Program} {w : World}
theorem rt_list_eq_len (l b : Addr) (items items2 : Array Value) (n n2 : Nat) (dd dd2 : Option Addr) (sl sl2 : Array (Option Value)) (hsz : items.size ≠ items2.size) :
    MeetsIn prog w (Builtin.«list.__eq__» ⟨[.ref l, .ref b], []⟩)
      (fun A R s => s.heap.get? l = some { cls := .type "list", dict := dd, data := .seq items n, slots := sl } ∧ s.heap.get? b = some { cls := .type "list", dict := dd2, data := .seq items2 n2, slots := sl2 } ∧
        R (.ok (.ret (.bool false))) s) := by
  intro A R s h
  obtain ⟨hp, g, d, tk, os⟩ := s; obtain ⟨hl, hb, h⟩ := h
  have f3 := AutoSeq1.sub_list_list
  have hne : (items.size != items2.size) = true := by simp [hsz]
  wp_walk using wpAny_loadPart' hl, wpAny_loadPart' hb
  all_goals exact h
theorem rt_list_ne_len (l b : Addr) (items items2 : Array Value) (n n2 : Nat) (dd dd2 : Option Addr) (sl sl2 : Array (Option Value)) (hsz : items.size ≠ items2.size) :
    MeetsIn prog w (Builtin.«list.__ne__» ⟨[.ref l, .ref b], []⟩)
      (fun A R s => s.heap.get? l = some { cls := .type "list", dict := dd, data := .seq items n, slots := sl } ∧ s.heap.get? b = some { cls := .type "list", dict := dd2, data := .seq items2 n2, slots := sl2 } ∧
        R (.ok (.ret (.bool true))) s) := by
  intro A R s h
  obtain ⟨hp, g, d, tk, os⟩ := s; obtain ⟨hl, hb, h⟩ := h
  have f3 := AutoSeq1.sub_list_list
  have hne : (items.size != items2.size) = true := by simp [hsz]
  wp_walk using wpAny_loadPart' hl, wpAny_loadPart' hb
  all_goals exact h
theorem rt_eq_len {A : Around} {s : Shared} {l b : Addr} {items items2 : Array Value} (hl : s.heap.IsList l items) (hb : s.heap.IsList b items2) (hsz : items.size ≠ items2.size) (hu : A.units < cLine)
    (E Q : Value → Shared → Prop) (h : Q (.bool false) s) : wpAny (model prog w) A (richCompare .Eq (.ref l) (.ref b)) Q E s := by
  obtain ⟨⟨cls, dd, data, sl⟩, ho, hc, n, hd⟩ := id hl
  obtain ⟨⟨cls2, dd2, data2, sl2⟩, ho2, hc2, n2, hd2⟩ := id hb
  simp only at hc hd hc2 hd2
  subst hc hd hc2 hd2
  have ta : s.TypeIs (.ref l) "list" := ⟨_, ho, rfl⟩
  have tb : s.TypeIs (.ref b) "list" := ⟨_, ho2, rfl⟩
  exact wpAny_richCompare_same_room (op := .Eq) ta tb F.slot_list_eq (call_meetsIn F.slot_list_eq ta F.entry_list_eq (F.args_list_eq_2 _ _) (rt_list_eq_len l b items items2 n n2 dd dd2 sl sl2 hsz)
    ⟨ho, ho2, show Value.bool false ≠ Value.notImplemented ∧ Q (.bool false) s from ⟨(fun x => nomatch x), h⟩⟩) hu
theorem rt_ne_len {A : Around} {s : Shared} {l b : Addr} {items items2 : Array Value} (hl : s.heap.IsList l items) (hb : s.heap.IsList b items2) (hsz : items.size ≠ items2.size) (hu : A.units < cLine)
    (E Q : Value → Shared → Prop) (h : Q (.bool true) s) : wpAny (model prog w) A (richCompare .NotEq (.ref l) (.ref b)) Q E s := by
  obtain ⟨⟨cls, dd, data, sl⟩, ho, hc, n, hd⟩ := id hl
  obtain ⟨⟨cls2, dd2, data2, sl2⟩, ho2, hc2, n2, hd2⟩ := id hb
  simp only at hc hd hc2 hd2
  subst hc hd hc2 hd2
  have ta : s.TypeIs (.ref l) "list" := ⟨_, ho, rfl⟩
  have tb : s.TypeIs (.ref b) "list" := ⟨_, ho2, rfl⟩
  exact wpAny_richCompare_same_room (op := .NotEq) ta tb F.slot_list_ne (call_meetsIn F.slot_list_ne ta F.entry_list_ne (F.args_list_ne_2 _ _) (rt_list_ne_len l b items items2 n n2 dd dd2 sl sl2 hsz)
    ⟨ho, ho2, show Value.bool true ≠ Value.notImplemented ∧ Q (.bool true) s from ⟨(fun x => nomatch x), h⟩⟩) hu
end
end PySem.SeqAt
namespace RT
open PySem PySem.Spec PyProof.Rows L2
def rEqLen (K : PySem.W.Frag) (neg : Bool) : R2 := fun x y H Q => ∃ a b xs ys, x = .ref a ∧ y = .ref b ∧ SqL K H a xs ∧ SqL K H b ys ∧ xs.length ≠ ys.length ∧ Q (.bl neg) H
theorem op_eqLen {X : Cx} (hu : X.A.units < cLine) : OpR X (compareOp .Eq) (rEqLen X.K false) := by
  intro pins s σ H x y v u Q I rx ry h
  obtain ⟨a, b, xs, ys, rfl, rfl, ha, hb, hn, q⟩ := h
  cases rx
  cases ry
  obtain ⟨its, r1, p1, z1⟩ := I.list ha
  obtain ⟨jts, r2, p2, z2⟩ := I.list hb
  exact PySem.SeqAt.rt_eq_len p1.isList p2.isList (by rw [List.size_toArray, List.size_toArray, ← r1.length, ← r2.length]; exact hn) hu _ _ ⟨.bl false, H, I, rfl, q⟩
theorem op_neLen {X : Cx} (hu : X.A.units < cLine) : OpR X (compareOp .NotEq) (rEqLen X.K true) := by
  intro pins s σ H x y v u Q I rx ry h
  obtain ⟨a, b, xs, ys, rfl, rfl, ha, hb, hn, q⟩ := h
  cases rx
  cases ry
  obtain ⟨its, r1, p1, z1⟩ := I.list ha
  obtain ⟨jts, r2, p2, z2⟩ := I.list hb
  exact PySem.SeqAt.rt_ne_len p1.isList p2.isList (by rw [List.size_toArray, List.size_toArray, ← r1.length, ← r2.length]; exact hn) hu _ _ ⟨.bl true, H, I, rfl, q⟩
def uEqL (K : PySem.W.Frag) : R2 := fun x y H Q => uEq K x y H Q ∨ rEqLen K false x y H Q
def uNeL (K : PySem.W.Frag) : R2 := fun x y H Q => uNe K x y H Q ∨ rEqLen K true x y H Q
theorem op_ueqL {X : Cx} {K : PySem.W.Frag} {k : Nat} (hr : L2H.RoomH k X.A) (hK : X.K = K := by rfl) : OpR X (compareOp .Eq) (uEqL K) := by
  subst hK
  exact OpR.or (op_ueq hr) (op_eqLen (by have := hr.un; omega))
theorem op_uneL {X : Cx} {K : PySem.W.Frag} {k : Nat} (hr : L2H.RoomH k X.A) (hK : X.K = K := by rfl) : OpR X (compareOp .NotEq) (uNeL K) := by
  subst hK
  exact OpR.or (op_une hr) (op_neLen (by have := hr.un; omega))
def uGe : R2 := fun x y H Q => rI0 (fun i j => .bl (decide (i ≥ j))) x y H Q ∨ ∃ i j, x = .str i ∧ y = .str j ∧ Q (.bl (!decide (i.cps.toList < j.cps.toList))) H
theorem op_uge {X : Cx} : OpR X (compareOp .GtE) uGe := OpR.or op_ge op_ge_str
/-- not e as a value, by truth -/
def tNotX (K : PySem.W.Frag) (ta : TE) : TE := fun σ H Q => ta σ H fun x H1 => Tru K x H1 fun k => Q (.bl (!k)) H1
theorem pe_notU {X : Cx} {K : PySem.W.Frag} {a : Expr} {ta : TE} {pos : Pos} (ha : PE X a ta) (hK : X.K = K := by rfl) : PE X (.UnaryOp .Not a pos) (tNotX K ta) := by
  subst hK
  exact pe_notT ha
theorem v_notX {K : PySem.W.Frag} {ta : TE} {σ : L2.St} {H : Hp} {Q : VK} (h : ta σ H fun x H1 => Tru K x H1 fun k => Q (.bl (!k)) H1) : tNotX K ta σ H Q := h
section
variable {H : Hp} {Q : VK} {K : PySem.W.Frag} {a b : Addr} {x y : V} {xs : List V}
theorem v_eqL (h : uEq K x y H Q) : uEqL K x y H Q := .inl h
theorem v_neL (h : uNe K x y H Q) : uNeL K x y H Q := .inl h
/-- a list and the empty one -/
theorem v_eqL_nil (h1 : SqL K H a xs) (h2 : SqL K H b []) (q : Q (.bl xs.isEmpty) H) : uEqL K (.ref a) (.ref b) H Q := by
  cases xs with
  | nil => exact .inl (v_eq_nil2 h1 h2 q)
  | cons x xs => exact .inr ⟨a, b, _, _, rfl, rfl, h1, h2, by simp, q⟩
theorem v_neL_nil (h1 : SqL K H a xs) (h2 : SqL K H b []) (q : Q (.bl (!xs.isEmpty)) H) : uNeL K (.ref a) (.ref b) H Q := by
  cases xs with
  | nil => exact .inl (v_ne_nil2 h1 h2 q)
  | cons x xs => exact .inr ⟨a, b, _, _, rfl, rfl, h1, h2, by simp, q⟩
theorem v_lt_ss {i j : Str} (q : Q (.bl (decide (i.cps.toList < j.cps.toList))) H) : uLt (.str i) (.str j) H Q := .inr ⟨_, _, rfl, rfl, q⟩
theorem v_ge_ii {i j : Int} (q : Q (.bl (decide (i ≥ j))) H) : uGe (.int i) (.int j) H Q := .inl ⟨_, _, rfl, rfl, q⟩
theorem v_ge_ss {i j : Str} (q : Q (.bl (!decide (i.cps.toList < j.cps.toList))) H) : uGe (.str i) (.str j) H Q := .inr ⟨_, _, rfl, rfl, q⟩
end
theorem atI_1 {α : Type} (x y : α) (xs : List α) : atI (x :: y :: xs) 1 = some y := atI_nat (j := 1) (by simp)
theorem cut_1 (xs : List V) : cutV xs (some 1) none = xs.drop 1 := by
  unfold cutV HT.sIx
  simp only
  cases xs with
  | nil => rfl
  | cons x xs => simp
theorem v_mul_l {H : Hp} {Q : VK} {a : Addr} {xs : List V} {k : Nat} (h : H a = some (.lst xs)) (hk : k ≤ 1000) (hl : xs.length * k ≤ 10000)
    (q : ∀ p H', H p = none → Chg [] H H' → H' p = some (.lst (List.replicate k xs).flatten) → Q (.ref p) H') : uMul (.ref a) (.int k) H Q :=
  .inr ⟨a, k, xs, rfl, rfl, h, by omega, by omega, by rw [Int.toNat_natCast, sizeLine_eq]; omega, fun p hp => q p _ hp (.new hp) (by rw [Int.toNat_natCast]; exact upd_same)⟩
/-- a or b, where what comes behind is the same for both -/
def tOrJ (K : PySem.W.Frag) (te tf : TE) : TE := tOrT K te tf
theorem pe_orJU {X : Cx} {K : PySem.W.Frag} {a b : Expr} {ta tb : TE} {rest : List Expr} {pos : Pos} (ha : PE X a ta) (hb : PE X (.BoolOp .Or (b :: rest) pos) tb) (hK : X.K = K := by rfl) : PE X (.BoolOp .Or (a :: b :: rest) pos) (tOrJ K ta tb) := pe_orTU ha hb hK
theorem v_orJ {K : PySem.W.Frag} {te tf : TE} {σ : L2.St} {H : Hp} {U : VK} (R : V → Hp → Prop) (k : ∀ x H, R x H → U x H) (h : ∀ U : VK, (∀ x H, R x H → U x H) → te σ H fun x H1 => Tru K x H1 fun b => if b = true then U x H1 else tf σ H1 U) : tOrJ K te tf σ H U := h U k
section
variable {H : Hp} {Q : VK} {K : PySem.W.Frag}
theorem v_dictT {a : Addr} {ps : List Addr} {kvs : List (Key × V)} (h1 : FzT H a (ps.map V.ref)) (h2 : Paired (fun p (kv : Key × V) => SqT K H p [kV kv.1, kv.2]) ps kvs) (q : ∀ p H', H p = none → Chg [] H H' → H' p = some (.dK (mergeK [] kvs)) → Q (.ref p) H') : uDictT K [.ref a] H Q :=
  ⟨a, ps, kvs, rfl, h1, h2, fun p hp => q p _ hp (.new hp) upd_same⟩
theorem v_itemsK {a : Addr} {kvs : List (Key × V)} (h : H a = some (.dK kvs)) (q : ∀ p H', H p = none → Chg [] H H' → H' p = some (L2.DX.itemsO p a) → Q (.ref p) H') : rItemsK (.ref a) [] H Q :=
  ⟨a, kvs, rfl, rfl, h, fun p hp => q p _ hp (.new hp) upd_same⟩
theorem v_sortIK {p a : Addr} {kvs : List (Key × V)} (h1 : H p = some (L2.DX.itemsO p a)) (h2 : H a = some (.dK kvs)) (h3 : ∀ q ∈ kvs, ∃ z t, q = (.inr z, .ref t))
    (q : ∀ (H' : Hp) (l : Addr) (kvs' : List (Key × V)) (ts : List Addr), Chg [] H H' → H l = none → kvs'.Perm kvs → (kvs'.map (·.1)).Pairwise (fun x y => keyLt x y = true) → H' l = some (.lst (ts.map V.ref)) →
      Paired (fun t q => H' t = some (.tup [kV q.1, q.2])) ts kvs' → Q (.ref l) H') : rSortIK [.ref p] H Q := ⟨p, a, kvs, rfl, h1, h2, h3, q⟩
theorem v_bmd {p : Addr} {kvs : List (Key × V)} {P : Prop} (h : H p = some (.dK kvs)) (q : P) : BM K "dict" (.ref p) H P := ⟨.inr (.inr (.inl ⟨rfl, .inl ⟨kvs, h⟩⟩)), q⟩
theorem v_len_dK {a : Addr} {kvs : List (Key × V)} (h : H a = some (.dK kvs)) (q : Q (.int kvs.length) H) : uLen K [.ref a] H Q := .inr ⟨a, kvs, rfl, h, q⟩
end
/-! isinstance of (tuple, list) -/
def uIsiT (K : PySem.W.Frag) : List V → Hp → VK → Prop := rIsiT K
theorem call_uisiT {X : Cx} {K : PySem.W.Frag} (hK : X.K = K := by rfl) : CallR X (.builtin "isinstance") (uIsiT K) := by
  subst hK
  exact call_isiT
theorem v_isiT_two {K : PySem.W.Frag} {H : Hp} {Q : VK} {x : V} {tp : Addr} {S R t : String} {b1 b2 : Bool} (h : TyX K H x (.type t)) (e : H tp = some (.tup [.ty S, .ty R])) (k1 : kitB t S = some b1) (k2 : kitB t R = some b2) (q : Q (.bl (b1 || b2)) H) : uIsiT K [x, .ref tp] H Q :=
  ⟨x, tp, _, _, [.type S, .type R], _, rfl, e, .cons (.ty S) (.cons (.ty R) .nil), h, kitAny_cons (kit_ty k1) (fun hb => by subst hb; exact kitAny_cons (kit_ty k2) (fun hb => by subst hb; exact kitAny_nil) (fun hb => by subst hb; rfl)) (fun hb => by subst hb; rfl), q⟩
end RT

namespace Cl
open PySem PySem.Spec PyProof.Rows L2 RT
local macro_rules | `(tactic| walk_at "v0") => `(tactic| first
  | with_reducible refine v_seq ?_
  | with_reducible refine v_next ?_
  | with_reducible refine v_asg ?_
  | with_reducible refine v_name ?_
  | with_reducible refine v_gcons ?_
  | with_reducible refine v_gnil ?_
  | ((with_reducible refine' v_var ?h ?_); case h => exact rfl)
  | with_reducible refine v_c ?_
  | with_reducible refine v_op ?_
  | with_reducible refine v_un ?_
  | with_reducible refine v_cons ?_
  | with_reducible refine v_nil ?_
  | with_reducible refine v_ret ?_
  | with_reducible refine v_drop ?_
  | with_reducible refine v_test ?_
  | with_reducible refine v_isb ?_
  | with_reducible refine v_tru ?_
  | with_reducible refine v_tru_b ?_
  | with_reducible refine v_tru_i ?_
  | with_reducible refine v_tru_n ?_
  | with_reducible refine v_and ?_
  | with_reducible refine v_or ?_
  | with_reducible refine v_not ?_
  | with_reducible refine v_notU ?_
  | with_reducible refine v_notX ?_
  | with_reducible refine v_andV ?_
  | with_reducible refine v_orV ?_
  | with_reducible refine v_ifE ?_
  | with_reducible refine v_chain ?_
  | with_reducible refine v_callS ?_
  | with_reducible refine v_call ?_
  | with_reducible refine v_cb ?_
  | with_reducible refine v_bm ?_
  | with_reducible refine v_bm0 ?_
  | with_reducible refine v_bms ?_
  | with_reducible refine v_lst ?_
  | with_reducible refine v_tup ?_
  | with_reducible refine v_iteT ?_
  | with_reducible refine v_iteF ?_
  | with_reducible refine v_iteNT ?_
  | with_reducible refine v_iteNF ?_
  | with_reducible refine v_rI0 ?_
  | ((with_reducible refine' v_rI ?h ?_); case h => first | omega | (with_reducible decide) | (refine ⟨?_, ?_⟩ <;> omega) | (unfold CDiv; omega) | (unfold CMul; omega) | (unfold CPow; omega))
  | with_reducible refine v_rU ?_
  | with_reducible refine v_add_ii ?_
  | ((with_reducible refine' v_mul_ii ?h ?_); case h => (unfold CMul; omega))
  | with_reducible refine v_eq_ii ?_
  | with_reducible refine v_ne_ii ?_
  | with_reducible refine v_eq_ss ?_
  | with_reducible refine v_ne_ss ?_
  | with_reducible refine v_lt_ii ?_
  | with_reducible refine v_eq_bb ?_
  | with_reducible refine v_ne_bb ?_
  | with_reducible refine v_bits ?_
  | with_reducible refine v_pcons ?_
  | with_reducible refine v_pnil ?_
  | with_reducible refine v_ipI ?_
  | ((with_reducible refine' v_aug ?h ?_); case h => exact rfl)
  | with_reducible refine v_raise ?_
  | with_reducible refine v_isi_i_int ?_
  | with_reducible refine v_isi_i_bool ?_
  | with_reducible refine v_isi_i_str ?_
  | with_reducible refine v_isi_i_tuple ?_
  | with_reducible refine v_isi_i_list ?_
  | with_reducible refine v_isi_i_dict ?_
  | with_reducible refine v_isi_b_int ?_
  | with_reducible refine v_isi_b_bool ?_
  | with_reducible refine v_isi_b_str ?_
  | with_reducible refine v_isi_b_tuple ?_
  | with_reducible refine v_isi_b_list ?_
  | with_reducible refine v_isi_b_dict ?_
  | with_reducible refine v_isi_s_int ?_
  | with_reducible refine v_isi_s_bool ?_
  | with_reducible refine v_isi_s_str ?_
  | with_reducible refine v_isi_s_tuple ?_
  | with_reducible refine v_isi_s_list ?_
  | with_reducible refine v_isi_s_dict ?_
  | with_reducible refine v_isi_n_int ?_
  | with_reducible refine v_isi_n_bool ?_
  | with_reducible refine v_isi_n_str ?_
  | with_reducible refine v_isi_n_tuple ?_
  | with_reducible refine v_isi_n_list ?_
  | with_reducible refine v_isi_n_dict ?_
  | ((with_reducible refine' v_isi_flat ?h ?g ?_); (case h => first | assumption | exact rfl); (case g => simp [sixT]))
  | with_reducible refine v_sl ?_
  | with_reducible refine v_nopart ?_
  | with_reducible refine v_part ?_
  | with_reducible refine v_isi ?_
  | with_reducible refine v_max2 ?_
  | with_reducible refine v_min2 ?_
  | with_reducible refine v_int_i ?_
  | with_reducible refine v_int_b ?_
  | with_reducible refine v_retN ?_
  | with_reducible refine v_for ?_
  | with_reducible refine v_rng1 ?_
  | with_reducible refine v_rng2 ?_
  | with_reducible refine v_rng3 ?_
  | with_reducible refine v_it ?_
  | with_reducible refine v_itH ?_
  | with_reducible refine v_enumS ?_
  | with_reducible refine v_zipB ?_
  | with_reducible refine v_lc ?_
  | with_reducible refine v_sub ?_
  | with_reducible refine v_orT ?_
  | with_reducible refine v_revT ?_
  | with_reducible refine v_tupF ?_
  | with_reducible refine v_exc ?_
  | with_reducible refine v_dget2 ?_
  | with_reducible refine v_yes ?_
  | with_reducible refine v_break ?_
  | with_reducible refine v_cont ?_)
local macro_rules | `(tactic| walk_at "v") => `(tactic| first | walk_at "v0" | with_reducible refine v_ifs ?_)
local macro_rules | `(tactic| walk_at "vp") => `(tactic| repeat (walk_at "v0"))
local macro_rules | `(tactic| walk_at "vs") => `(tactic| repeat (walk_at "v"))
local macro_rules | `(tactic| walk_at "vi") => `(tactic| first
  | with_reducible refine v_iteD (fun _ => ?_) (fun _ => ?_)
  | with_reducible refine v_iteN (fun _ => ?_) (fun _ => ?_)
  | with_reducible refine v_iteNB (fun _ => ?_) (fun _ => ?_)
  | with_reducible refine v_iteB (fun _ => ?_) (fun _ => ?_))
local macro_rules | `(tactic| walk_at "vx") => `(tactic| repeat' (first | walk_at "v" | walk_at "vi"))

def topS (i : Nat) : Stmt := PySem.Challenge.pw_retrace_k01_names_numbers_values.main.body.getD i (.Pass ⟨0, 0, 0, 0⟩)
structure Txt (K : PySem.W.Frag) (mg : Str → Option Value) : Type where
  n_len : mg "len" = none
  n_range : mg "range" = none
  n_isinstance : mg "isinstance" = none
  n_str : mg "str" = none
  c_LONGEST_NAME : ConAt mg "LONGEST_NAME" (.int 6)
  c_LETTERS : ConAt mg "LETTERS" (.str "abcdefghijklmnopqrstuvwxyz")
  n_int : mg "int" = none
  n_bool : mg "bool" = none
  c_GREATEST : ConAt mg "GREATEST" (.int 999999)
  n_tuple : mg "tuple" = none
  c_DEEPEST : ConAt mg "DEEPEST" (.int 4)
  n_list : mg "list" = none
/-! ### the law's drawing -/
theorem line9 {n : Nat} (h : n ≤ 10000) : n ≤ sizeLine := by rw [sizeLine_eq]; omega
theorem line9' {n : Nat} (h : n ≤ 10000) : n < sizeLine := by rw [sizeLine_eq]; omega
def StAt (H : Hp) (st : Addr) : Prop := ∃ z : Int, H st = some (.lst [.int z]) ∧ 0 ≤ z ∧ z < 2147483629
theorem StAt.on {S : List Addr} {H H' : Hp} {st : Addr} (h : StAt H st) (c : Chg S H H') (n : st ∉ S) : StAt H' st := by
  obtain ⟨z, e, h1, h2⟩ := h
  exact ⟨z, c.keep e n, h1, h2⟩
theorem StAt.on0 {H H' : Hp} {st : Addr} (h : StAt H st) (c : Chg [] H H') : StAt H' st := h.on c (by simp)
theorem isNm_ok {z : Str} (h : isNm z = true) : PyData.strOk z = true := by
  simp only [isNm, Bool.and_eq_true, decide_eq_true_eq, List.all_eq_true] at h
  unfold PyData.strOk
  rw [← Array.all_toList, List.all_eq_true]
  intro c hc
  have := (h.2 c hc).2
  exact decide_eq_true (by omega)
theorem isNm_len {z : Str} (h : isNm z = true) : 1 ≤ z.length ∧ z.length ≤ 6 := by
  simp only [isNm, Bool.and_eq_true, decide_eq_true_eq] at h
  exact h.1
theorem abc_at : ∀ n : Fin 26, (Str.ofString "abcdefghijklmnopqrstuvwxyz").cps.toList[n.val]? = some (97 + n.val) := by decide +kernel
theorem abc_len : (Str.ofString "abcdefghijklmnopqrstuvwxyz").cps.toList.length = 26 := by decide +kernel
theorem abc_ix {i : Int} (h0 : 0 ≤ i) (h1 : i < 26) : atI (Str.ofString "abcdefghijklmnopqrstuvwxyz").cps.toList i = some (97 + i.toNat) := by
  have := abc_at ⟨i.toNat, by omega⟩
  unfold atI ixN
  rw [abc_len, if_pos h0, if_pos (by exact_mod_cast h1)]
  exact this
theorem abc_line : (Str.ofString "abcdefghijklmnopqrstuvwxyz").length ≤ sizeLine := line9 (by
  have : (Str.ofString "abcdefghijklmnopqrstuvwxyz").length = 26 := abc_len
  omega)
theorem isNm_one {c : Nat} (h0 : 97 ≤ c) (h1 : c ≤ 122) : isNm ⟨#[c]⟩ = true := by
  simp [isNm, Str.length, h0, h1]
theorem str1_inj {c d : Nat} (h : (⟨#[c]⟩ : Str) = ⟨#[d]⟩) : c = d := by
  have := congrArg (fun z : Str => z.cps.toList) h
  simpa using this
/-! promises -/
def sp_cell (K : PySem.W.Frag) : Sp := fun vs H Q _ => ∃ a ns k, vs = [.ref a, .int k] ∧ SqL K H a (List.map V.int ns) ∧ ns.length ≤ 63 ∧ 0 ≤ k ∧ ∀ i, Q (.int i) H
def sp_state : Sp := fun vs H Q _ => ∃ c k, vs = [.int c, .int k] ∧ ∀ st H', H st = none → Chg [] H H' → StAt H' st → Q (.ref st) H'
def sp_next : Sp := fun vs H Q _ => ∃ st n, vs = [.ref st, .int n] ∧ StAt H st ∧ 1 ≤ n ∧ ∀ i H', 0 ≤ i → i < n → Chg [st] H H' → StAt H' st → Q (.int i) H'
def sp_names : Sp := fun vs H Q _ => ∃ st n, vs = [.ref st, .int n] ∧ StAt H st ∧ 0 ≤ n ∧ n ≤ 26 ∧
  ∀ (a : Addr) (zs : List Str) H', H a = none → Chg [st] H H' → StAt H' st → H' a = some (.lst (zs.map V.str)) → (zs.length : Int) = n → (∀ z ∈ zs, isNm z = true) → zs.Nodup → Q (.ref a) H'
theorem StAt.ne_strs {H : Hp} {st b : Addr} {zs : List Str} (h : StAt H st) (hb : H b = some (.lst (zs.map V.str))) : b ≠ st := by
  rintro rfl
  obtain ⟨z, e, _⟩ := h
  rw [hb] at e
  cases zs with
  | nil => cases e
  | cons y zs => cases e
def sp_law (K : PySem.W.Frag) : Sp := fun vs H Q _ => ∃ a ns, vs = [.ref a] ∧ SqL K H a (List.map V.int ns) ∧ ns.length ≤ 63 ∧ ∀ H', Q (.bl true) H'
theorem sp_law_start {K : PySem.W.Frag} {H : Hp} {a : Addr} {ns : List Int} {E : XK} (hl : ns.length ≤ 63) (_ : Only H) (hS : SqL K H a (ns.map V.int)) : sp_law K [.ref a] H (fun v _ => v = .bl true) E :=
  ⟨a, ns, rfl, hS, hl, fun _ => rfl⟩
theorem seqL_fresh {K : PySem.W.Frag} {S : List Addr} {H H' : Hp} {a : Addr} {xs : List V} (hS : SqL K H a xs) (c : Chg S H H') (hn : ∀ l ∈ S, H l = none) : SqL K H' a xs := by
  rcases hS with h | h
  · refine c.seqLS (.inl h) fun o e m => ?_
    have := hn _ m
    rcases h with h | ⟨o, h⟩
    · rw [this] at h; cases h
    · rw [this] at h; cases h
  · exact .inr h
/-! ### things of any kind -/
inductive Th where
  | non
  | bl (b : Bool)
  | int (i : Int)
  | str (s : Str)
  | tup (xs : List Th)
  | lst (xs : List Th)
  | dic
mutual
inductive Tq (F : Addr → Prop) (H : Hp) : V → Th → Prop
  | non : Tq F H .non .non
  | bl (b : Bool) : Tq F H (.bl b) (.bl b)
  | int (i : Int) : Tq F H (.int i) (.int i)
  | str {s : Str} (h : s.length ≤ 1000) : Tq F H (.str s) (.str s)
  | tup {a : Addr} {xs : List V} {ts : List Th} : H a = some (.tup xs) → TqA F H xs ts → Tq F H (.ref a) (.tup ts)
  | lst {a : Addr} {xs : List V} {ts : List Th} : F a → H a = some (.lst xs) → TqA F H xs ts → Tq F H (.ref a) (.lst ts)
  | dic {a : Addr} : F a → H a = some (.dK []) → Tq F H (.ref a) .dic
inductive TqA (F : Addr → Prop) (H : Hp) : List V → List Th → Prop
  | nil : TqA F H [] []
  | cons {x : V} {xs : List V} {t : Th} {ts : List Th} : Tq F H x t → TqA F H xs ts → TqA F H (x :: xs) (t :: ts)
end
mutual
theorem Tq.chg {F : Addr → Prop} {S : List Addr} {H H' : Hp} (c : Chg S H H') (n : ∀ a ∈ S, ¬ F a) : ∀ (t : Th) (v : V), Tq F H v t → Tq F H' v t
  | .non, _, h => by cases h; exact .non
  | .bl b, _, h => by cases h; exact .bl b
  | .int i, _, h => by cases h; exact .int i
  | .str s, _, h => by cases h with | str h => exact .str h
  | .tup ts, _, h => by cases h with | tup e r => exact .tup (c.tup e) (TqA.chg c n ts _ r)
  | .lst ts, _, h => by cases h with | lst f e r => exact .lst f (c.keep e fun m => n _ m f) (TqA.chg c n ts _ r)
  | .dic, _, h => by cases h with | dic f e => exact .dic f (c.keep e fun m => n _ m f)
theorem TqA.chg {F : Addr → Prop} {S : List Addr} {H H' : Hp} (c : Chg S H H') (n : ∀ a ∈ S, ¬ F a) : ∀ (ts : List Th) (xs : List V), TqA F H xs ts → TqA F H' xs ts
  | [], _, h => by cases h; exact .nil
  | t :: ts, _, h => by cases h with | cons r q => exact .cons (Tq.chg c n t _ r) (TqA.chg c n ts _ q)
end
section
variable {F : Addr → Prop} {S : List Addr} {H H' : Hp} {v x : V} {t : Th} {xs ys : List V} {ts us : List Th}
theorem Tq.on (h : Tq F H v t) (c : Chg S H H') (n : ∀ a ∈ S, ¬ F a) : Tq F H' v t := Tq.chg c n t v h
theorem Tq.on0 (h : Tq F H v t) (c : Chg [] H H') : Tq F H' v t := Tq.chg c (by simp) t v h
theorem TqA.on (h : TqA F H xs ts) (c : Chg S H H') (n : ∀ a ∈ S, ¬ F a) : TqA F H' xs ts := TqA.chg c n ts xs h
theorem TqA.on0 (h : TqA F H xs ts) (c : Chg [] H H') : TqA F H' xs ts := TqA.chg c (by simp) ts xs h
theorem TqA.length (h : TqA F H xs ts) : xs.length = ts.length := by
  induction ts generalizing xs with
  | nil => cases h; rfl
  | cons d ds ih => cases h with | cons r t => rw [List.length_cons, List.length_cons, ih t]
theorem TqA.get (h : TqA F H xs ts) {i : Nat} (e : xs[i]? = some x) : ∃ d, ts[i]? = some d ∧ Tq F H x d := by
  induction ts generalizing xs i with
  | nil => cases h; simp at e
  | cons d ds ih =>
    cases h with
    | cons r t =>
      cases i with
      | zero => simp at e; subst e; exact ⟨d, by simp, r⟩
      | succ i => simp at e; simpa using ih t e
theorem TqA.app (h : TqA F H xs ts) (h' : TqA F H ys us) : TqA F H (xs ++ ys) (ts ++ us) := by
  induction ts generalizing xs with
  | nil => cases h; exact h'
  | cons d ds ih => cases h with | cons r t => exact .cons r (ih t)
theorem TqA.one (h : Tq F H x t) : TqA F H [x] [t] := .cons h .nil
theorem TqA.take (h : TqA F H xs ts) (n : Nat) : TqA F H (xs.take n) (ts.take n) := by
  induction n generalizing xs ts with
  | zero => exact .nil
  | succ n ih =>
    cases ts with
    | nil => cases h; exact .nil
    | cons d ds => cases h with | cons r t => exact .cons r (ih t)
theorem TqA.drop (h : TqA F H xs ts) (n : Nat) : TqA F H (xs.drop n) (ts.drop n) := by
  induction n generalizing xs ts with
  | zero => exact h
  | succ n ih =>
    cases ts with
    | nil => cases h; exact .nil
    | cons d ds => cases h with | cons r t => exact ih t
theorem TqA.cut (h : TqA F H xs ts) (lo hi : Option Int) : TqA F H (cutV xs lo hi) (cutL ts lo hi) := by
  unfold cutV cutL
  rw [h.length]
  exact (h.drop _).take _
theorem TqA.rev (h : TqA F H xs ts) : TqA F H xs.reverse ts.reverse := by
  induction ts generalizing xs with
  | nil => cases h; exact .nil
  | cons d ds ih => cases h with | cons r t => rw [List.reverse_cons, List.reverse_cons]; exact (ih t).app (.one r)
theorem TqA.rep (h : TqA F H xs ts) (n : Nat) : TqA F H (List.replicate n xs).flatten (List.replicate n ts).flatten := by
  induction n with
  | zero => exact .nil
  | succ n ih => rw [List.replicate_succ, List.replicate_succ, List.flatten_cons, List.flatten_cons]; exact h.app ih
theorem Tq.tupI (h : Tq F H v (.tup ts)) : ∃ a xs, v = .ref a ∧ H a = some (.tup xs) ∧ TqA F H xs ts := by
  cases h with
  | tup e r => exact ⟨_, _, rfl, e, r⟩
end
mutual
theorem tq_and' {F G : Addr → Prop} {H : Hp} (hG : ∀ b o, H b = some o → G b) : ∀ (t : Th) (v : V), Tq F H v t → Tq (fun b => F b ∧ G b) H v t
  | .non, _, h => by cases h; exact .non
  | .bl b, _, h => by cases h; exact .bl b
  | .int i, _, h => by cases h; exact .int i
  | .str s, _, h => by cases h with | str h => exact .str h
  | .tup ts, _, h => by cases h with | tup e r => exact .tup e (tqA_and' hG ts _ r)
  | .lst ts, _, h => by cases h with | lst f e r => exact .lst ⟨f, hG _ _ e⟩ e (tqA_and' hG ts _ r)
  | .dic, _, h => by cases h with | dic f e => exact .dic ⟨f, hG _ _ e⟩ e
theorem tqA_and' {F G : Addr → Prop} {H : Hp} (hG : ∀ b o, H b = some o → G b) : ∀ (ts : List Th) (xs : List V), TqA F H xs ts → TqA (fun b => F b ∧ G b) H xs ts
  | [], _, h => by cases h; exact .nil
  | t :: ts, _, h => by cases h with | cons r q => exact .cons (tq_and' hG t _ r) (tqA_and' hG ts _ q)
end
theorem tq_and {F G : Addr → Prop} {H : Hp} {v : V} {t : Th} (h : Tq F H v t) (hG : ∀ b o, H b = some o → G b) : Tq (fun b => F b ∧ G b) H v t := tq_and' hG t v h
/-! data that never changes, as things; short texts -/
mutual
def shD : D → Bool
  | .str s => decide (s.length ≤ 100)
  | .tup xs => shDs xs
  | _ => true
def shDs : List D → Bool
  | [] => true
  | x :: xs => shD x && shDs xs
end
mutual
def Th.of : D → Th
  | .non => .non
  | .bl b => .bl b
  | .int i => .int i
  | .str s => .str s
  | .tup xs => .tup (Th.ofs xs)
def Th.ofs : List D → List Th
  | [] => []
  | x :: xs => Th.of x :: Th.ofs xs
end
theorem shDs_mem {ds : List D} {d : D} (h : shDs ds = true) (m : d ∈ ds) : shD d = true := by
  induction ds with
  | nil => cases m
  | cons e ds ih =>
    rw [shDs, Bool.and_eq_true] at h
    rcases List.mem_cons.mp m with rfl | m
    · exact h.1
    · exact ih h.2 m
theorem shDs_all {ds : List D} (h : ∀ d ∈ ds, shD d = true) : shDs ds = true := by
  induction ds with
  | nil => rfl
  | cons e ds ih => rw [shDs, h e List.mem_cons_self, ih fun d m => h d (List.mem_cons_of_mem _ m)]; rfl
mutual
theorem rp_tq {F : Addr → Prop} {H : Hp} : ∀ (d : D) (v : V), shD d = true → Rp H v d → Tq F H v (Th.of d)
  | .non, _, _, h => by cases h; exact .non
  | .bl b, _, _, h => by cases h; exact .bl b
  | .int i, _, _, h => by cases h; exact .int i
  | .str s, _, hs, h => by cases h; exact .str (by rw [shD, decide_eq_true_eq] at hs; omega)
  | .tup ds, _, hs, h => by cases h with | tup e r => exact .tup e (rpA_tq ds _ hs r)
theorem rpA_tq {F : Addr → Prop} {H : Hp} : ∀ (ds : List D) (xs : List V), shDs ds = true → RpA H xs ds → TqA F H xs (Th.ofs ds)
  | [], _, _, h => by cases h; exact .nil
  | d :: ds, _, hs, h => by
    rw [shDs, Bool.and_eq_true] at hs
    cases h with | cons r t => exact .cons (rp_tq d _ hs.1 r) (rpA_tq ds _ hs.2 t)
end
def Th.isa : Th → String → Bool
  | .non, S => S == "NoneType"
  | .bl _, S => S == "bool" || S == "int"
  | .int _, S => S == "int"
  | .str _, S => S == "str"
  | .tup _, S => S == "tuple"
  | .lst _, S => S == "list"
  | .dic, S => S == "dict"
theorem v_isi_th {K : PySem.W.Frag} {F : Addr → Prop} {H : Hp} {Q : VK} {v : V} {t : Th} {S : String} (h : Tq F H v t) (hS : sixT S) (q : Q (.bl (t.isa S)) H) : uIsi K [v, .ty S] H Q := by
  cases h with
  | non => exact v_isi_flat rfl hS q
  | bl b => exact v_isi_flat rfl hS q
  | int i => exact v_isi_flat rfl hS q
  | str h => exact v_isi_flat rfl hS q
  | tup e r => exact v_isi_tup e hS q
  | lst f e r => exact v_isi_lst e hS q
  | dic f e => exact v_isi_dic e hS q
def nameT : Th → Bool
  | .str z => isNm z
  | _ => false
def numT : Th → Bool
  | .int i => decide (0 ≤ i) && decide (i < 1000000)
  | _ => false
def oneT (zs : List Str) : Th → Bool
  | .str z => decide (z ∈ zs)
  | _ => false
def numsT (n : Nat) : Th → Bool
  | .tup ns => decide (ns.length ≤ n) && ns.all numT
  | _ => false
def pairT : Th → Bool
  | .tup [x, y] => nameT x && numsT 40 y
  | _ => false
def pairN : Th → Bool
  | .tup [x, _] => nameT x
  | _ => false
theorem pair_no : ∀ {d : Th}, (∀ x y, d ≠ .tup [x, y]) → pairN d = false ∧ pairT d = false
  | .tup [], _ => ⟨rfl, rfl⟩
  | .tup [_], _ => ⟨rfl, rfl⟩
  | .tup [x, y], hn => absurd rfl (hn x y)
  | .tup (_ :: _ :: _ :: _), _ => ⟨rfl, rfl⟩
  | .non, _ => ⟨rfl, rfl⟩
  | .bl _, _ => ⟨rfl, rfl⟩
  | .int _, _ => ⟨rfl, rfl⟩
  | .str _, _ => ⟨rfl, rfl⟩
  | .lst _, _ => ⟨rfl, rfl⟩
  | .dic, _ => ⟨rfl, rfl⟩
def strT : Th → Str
  | .str z => z
  | _ => ⟨#[]⟩
def firstT : Th → Str
  | .tup (x :: _) => strT x
  | _ => ⟨#[]⟩
def RiseT (xs : List Th) : Prop := ∀ i x y, xs[i]? = some x → xs[i + 1]? = some y → (firstT x).cps.toList < (firstT y).cps.toList
def WorldT (t : Th) : Prop := ∃ xs, t = .tup xs ∧ xs.length ≤ 5 ∧ xs.all pairT = true ∧ RiseT xs
theorem v_isi_d0 {K : PySem.W.Frag} {H : Hp} {Q : VK} {a : Addr} {kvs : List (Key × V)} {S : String} (h : H a = some (.dK kvs)) (hS : sixT S) (hn : (S == "dict") = false) (q : Q (.bl false) H) : uIsi K [.ref a, .ty S] H Q :=
  v_isi_dic h hS (by rw [hn]; exact q)
def sp_isname : Sp := fun vs H Q _ => ∃ v t F, vs = [v] ∧ Tq F H v t ∧ ∀ H', Chg [] H H' → Q (.bl (nameT t)) H'
def sp_isnum : Sp := fun vs H Q _ => ∃ v t F, vs = [v] ∧ Tq F H v t ∧ ∀ H', Chg [] H H' → Q (.bl (numT t)) H'
def sp_istup : Sp := fun vs H Q _ => ∃ v t F n, vs = [v, .int n] ∧ Tq F H v t ∧ ∀ H', Chg [] H H' → Q (.bl (match t with | .tup xs => decide ((xs.length : Int) ≤ n) | _ => false)) H'
def sp_ispair : Sp := fun vs H Q _ => ∃ v t F, vs = [v] ∧ Tq F H v t ∧ ∀ H', Chg [] H H' → Q (.bl (pairN t)) H'
def sp_arenums : Sp := fun vs H Q _ => ∃ v t F n, vs = [v, .int (n : Nat)] ∧ n ≤ 1000 ∧ Tq F H v t ∧ ∀ H', Chg [] H H' → Q (.bl (numsT n t)) H'
def sp_worldof (C : Addr) : Sp := fun vs H Q E => ∃ v t F, vs = [v] ∧ Tq F H v t ∧ (WorldT t → ∀ H', Chg [] H H' → Q v H') ∧ (¬ WorldT t → ∀ H', Chg [] H H' → E (.ref C) none H')
theorem abc_mem (c : Nat) : c ∈ (Str.ofString "abcdefghijklmnopqrstuvwxyz").cps.toList ↔ 97 ≤ c ∧ c ≤ 122 := by
  constructor
  · intro h
    obtain ⟨i, hi⟩ := List.mem_iff_getElem?.mp h
    have hi' : i < 26 := by have := (List.getElem?_eq_some_iff.mp hi).1; rw [abc_len] at this; exact this
    have e : c = 97 + i := Option.some.inj (hi.symm.trans (abc_at ⟨i, hi'⟩))
    omega
  · intro h
    have := abc_at ⟨c - 97, by omega⟩
    rw [show 97 + (⟨c - 97, by omega⟩ : Fin 26).val = c by show 97 + (c - 97) = c; omega] at this
    exact List.mem_of_getElem? this
theorem isNm_no {z : Str} {i : Nat} {x : Nat} (h : z.cps.toList[i]? = some x) (n : x ∉ (Str.ofString "abcdefghijklmnopqrstuvwxyz").cps.toList) : isNm z = false := by
  cases e : isNm z with
  | false => rfl
  | true =>
    simp only [isNm, Bool.and_eq_true, decide_eq_true_eq, List.all_eq_true] at e
    exact absurd ((abc_mem x).mpr (e.2 x (List.mem_of_getElem? h))) n
theorem isNm_yes {z : Str} (h1 : 1 ≤ z.length) (h2 : z.length ≤ 6) (h : ∀ (j : Nat) (x : Nat), j < z.length → z.cps.toList[j]? = some x → x ∈ (Str.ofString "abcdefghijklmnopqrstuvwxyz").cps.toList) : isNm z = true := by
  simp only [isNm, Bool.and_eq_true, decide_eq_true_eq, List.all_eq_true]
  refine ⟨⟨h1, h2⟩, fun c hc => ?_⟩
  obtain ⟨i, hi, e⟩ := List.getElem_of_mem hc
  exact (abc_mem c).mp (h i c (by rw [Array.length_toList] at hi; exact hi) (List.getElem?_eq_some_iff.mpr ⟨hi, e⟩))
theorem isNm_short {z : Str} (h : ¬ (1 ≤ z.length ∧ z.length ≤ 6)) : isNm z = false := by
  cases e : isNm z with
  | false => rfl
  | true => exact absurd (isNm_len e) h
theorem snoc_take {α : Type} {xs : List α} {i : Nat} {x : α} (h : xs[i]? = some x) : xs.take i ++ [x] = xs.take (i + 1) := by rw [List.take_add_one, h]; rfl
def sp_cls (NC : Addr) (wd : Str) : SpP := fun a cls d vs H Q E => vs = [.ref a] ∧ cls = .ref NC ∧ d = none ∧ ∀ H', Chg [] H H' → Q (.str wd) H'
def sp_lisworld : Sp := fun vs H Q _ => ∃ v t F, vs = [v] ∧ Tq F H v t ∧ (WorldT t → ∀ H', Chg [] H H' → Q (.bl true) H') ∧ (¬ WorldT t → ∀ H', Chg [] H H' → Q (.bl false) H')
def abcS : Str := Str.ofString "abcdefghijklmnopqrstuvwxyz"
def badS (l : List Nat) : List Nat := l.filter fun c => !decide (c ∈ abcS.cps.toList)
theorem badS_snoc (l : List Nat) (c : Nat) : badS (l ++ [c]) = badS l ++ if c ∈ abcS.cps.toList then [] else [c] := by
  unfold badS
  rw [List.filter_append]
  congr 1
  rw [List.filter_cons, List.filter_nil]
  by_cases h : c ∈ abcS.cps.toList
  · rw [decide_eq_true h, if_pos h]; rfl
  · rw [decide_eq_false h, if_neg h]; rfl
theorem badS_nm {z : Str} (h1 : 1 ≤ z.length) (h2 : z.length ≤ 6) : (badS z.cps.toList).isEmpty = isNm z := by
  cases e : isNm z with
  | true =>
    simp only [isNm, Bool.and_eq_true, decide_eq_true_eq, List.all_eq_true] at e
    have : badS z.cps.toList = [] := List.filter_eq_nil_iff.mpr fun c hc => by
      have := (abc_mem c).mpr (e.2 c hc)
      simpa [abcS] using this
    rw [this]; rfl
  | false =>
    cases hb : badS z.cps.toList with
    | cons x xs => rfl
    | nil =>
      have h := List.filter_eq_nil_iff.mp hb
      have : isNm z = true := isNm_yes h1 h2 fun j x _ hx => by
        have := h x (List.mem_of_getElem? hx)
        simpa [abcS] using this
      rw [this] at e; cases e
theorem isa_no {t : Th} (h : ∀ ys, t ≠ .tup ys) : t.isa "tuple" = false := by
  cases t with
  | tup ys => exact absurd rfl (h ys)
  | _ => rfl
theorem pairT_len {ys : List Th} (h : ys.length ≠ 2) : pairT (.tup ys) = false := by
  match ys, h with
  | [], _ => rfl
  | [_], _ => rfl
  | [_, _], h => exact absurd rfl h
  | _ :: _ :: _ :: _, _ => rfl
theorem numsT_no {t : Th} {n : Nat} (h : ∀ ys, t ≠ .tup ys) : numsT n t = false := by
  cases t with
  | tup ys => exact absurd rfl (h ys)
  | _ => rfl
/-! what is drawn: numbers, short texts, tuples of such -/
mutual
def gdD : D → Bool
  | .int i => decide (0 ≤ i) && decide (i < 1000000)
  | .str s => decide (s.length ≤ 100)
  | .tup xs => decide (xs.length ≤ 100) && gdDs xs
  | _ => false
def gdDs : List D → Bool
  | [] => true
  | x :: xs => gdD x && gdDs xs
end
theorem gdDs_mem {ds : List D} {d : D} (h : gdDs ds = true) (m : d ∈ ds) : gdD d = true := by
  induction ds with
  | nil => cases m
  | cons e ds ih =>
    rw [gdDs, Bool.and_eq_true] at h
    rcases List.mem_cons.mp m with rfl | m
    · exact h.1
    · exact ih h.2 m
theorem gdDs_all {ds : List D} (h : ∀ d ∈ ds, gdD d = true) : gdDs ds = true := by
  induction ds with
  | nil => rfl
  | cons e ds ih => rw [gdDs, h e List.mem_cons_self, ih fun d m => h d (List.mem_cons_of_mem _ m)]; rfl
mutual
theorem gd_sh : ∀ d : D, gdD d = true → shD d = true
  | .non, h => rfl
  | .bl _, h => rfl
  | .int _, h => rfl
  | .str s, h => h
  | .tup xs, h => by rw [gdD, Bool.and_eq_true] at h; exact gds_shs xs h.2
theorem gds_shs : ∀ ds : List D, gdDs ds = true → shDs ds = true
  | [], h => rfl
  | d :: ds, h => by rw [gdDs, Bool.and_eq_true] at h; rw [shDs, gd_sh d h.1, gds_shs ds h.2]; rfl
end
def OkV (st : Addr) (H : Hp) (v : V) : Prop := ∃ t, Tq (fun b => b ≠ st) H v t
theorem OkV.on {st : Addr} {H H' : Hp} {v : V} (h : OkV st H v) (c : Chg [st] H H') : OkV st H' v := by
  obtain ⟨t, h⟩ := h
  exact ⟨t, h.on c (by simp)⟩
theorem OkV.on0 {st : Addr} {H H' : Hp} {v : V} (h : OkV st H v) (c : Chg [] H H') : OkV st H' v := h.on c.of0
theorem OkV.tup {st : Addr} {H : Hp} {a : Addr} {xs : List V} {ts : List Th} (e : H a = some (.tup xs)) (h : TqA (fun b => b ≠ st) H xs ts) : OkV st H (.ref a) := ⟨_, .tup e h⟩
theorem OkV.int {st : Addr} {H : Hp} (i : Int) : OkV st H (.int i) := ⟨_, .int i⟩
theorem OkV.bl {st : Addr} {H : Hp} (i : Bool) : OkV st H (.bl i) := ⟨_, .bl i⟩
theorem OkV.str {st : Addr} {H : Hp} {z : Str} (h : z.length ≤ 1000) : OkV st H (.str z) := ⟨_, .str h⟩
theorem StAt.neN {H : Hp} {st p : Addr} (h : StAt H st) (hp : H p = none) : p ≠ st := by
  rintro rfl; obtain ⟨z, e, _⟩ := h; rw [hp] at e; cases e
def sp_odd : Sp := fun vs H Q _ => ∃ v d st, vs = [v, .ref st] ∧ Rp H v d ∧ gdD d = true ∧ StAt H st ∧ ∀ v' H', Chg [st] H H' → StAt H' st → OkV st H' v' → Q v' H'
def sp_spoilt (n : Nat) : Sp := fun vs H Q _ => ∃ v d st, vs = [v, .ref st] ∧ Rp H v d ∧ gdD d = true ∧ d.dep < n ∧ d.dep ≤ 60 ∧ StAt H st ∧ ∀ v' H', Chg [st] H H' → StAt H' st → OkV st H' v' → Q v' H'
theorem log2_small {i : Int} (h0 : 0 ≤ i) (h1 : i < 1000000) : i.natAbs.log2 < 1920 := by
  by_cases h : i.natAbs = 0
  · rw [h]; decide
  · exact (Nat.log2_lt h).mpr (Nat.lt_of_lt_of_le (show i.natAbs < 2 ^ 20 by omega) (Nat.pow_le_pow_right (by decide) (by decide)))
def sp_world : Sp := fun vs H Q _ => ∃ st, vs = [.ref st] ∧ StAt H st ∧ ∀ a ds H', Chg [st] H H' → StAt H' st → Rp H' (.ref a) (.tup ds) → gdDs ds = true → D.deps ds ≤ 3 → ds.length ≤ 6 → Q (.ref a) H'
theorem gdDs_ints (ns : List Int) (h : ∀ n ∈ ns, 0 ≤ n ∧ n < 1000000) : gdDs (ns.map D.int) = true := gdDs_all fun d hd => by
  obtain ⟨n, hn, rfl⟩ := List.mem_map.mp hd
  obtain ⟨h0, h1⟩ := h n hn
  rw [gdD, decide_eq_true h0, decide_eq_true h1]; rfl
theorem nums_rp {F : Addr → Prop} {H : Hp} : ∀ {ns : List Th} {us : List V}, TqA F H us ns → ns.all numT = true → ∃ ds, RpA H us ds ∧ D.deps ds ≤ 0
  | [], _, h, _ => by cases h; exact ⟨[], .nil, Nat.le_refl _⟩
  | t :: ns, _, h, ha => by
    cases h with
    | cons r q =>
      rw [List.all_cons, Bool.and_eq_true] at ha
      obtain ⟨ds, h1, h2⟩ := nums_rp q ha.2
      cases t with
      | int i => cases r; exact ⟨.int i :: ds, .cons (.int i) h1, by simp only [D.deps, D.dep]; omega⟩
      | _ => cases ha.1
theorem pair_rp {F : Addr → Prop} {H : Hp} {x : V} {t : Th} (h : Tq F H x t) (hp : pairT t = true) : ∃ d, Rp H x d ∧ d.dep ≤ 2 := by
  by_cases hpp : ∃ x y, t = .tup [x, y]
  · obtain ⟨x1, y1, rfl⟩ := hpp
    have e1 : (nameT x1 && numsT 40 y1) = true := hp
    rw [Bool.and_eq_true] at e1
    obtain ⟨b, ys, rfl, eb, rb⟩ := h.tupI
    cases rb with
    | cons r1 r' =>
      cases r' with
      | cons r2 r'' =>
        cases r''
        cases x1 with
        | str z =>
          cases r1
          cases y1 with
          | tup ns =>
            have e2 : (decide (ns.length ≤ 40) && ns.all numT) = true := e1.2
            rw [Bool.and_eq_true] at e2
            obtain ⟨b2, us, rfl, eb2, rb2⟩ := r2.tupI
            obtain ⟨ds, h1, h2⟩ := nums_rp rb2 e2.2
            exact ⟨.tup [.str z, .tup ds], .tup eb (.cons (.str (isNm_ok e1.1)) (.one (.tup eb2 h1))), by simp only [D.dep, D.deps]; omega⟩
          | _ => cases e1.2
        | _ => cases e1.1
  · rw [(pair_no fun x y h => hpp ⟨x, y, h⟩).2] at hp; cases hp
theorem pairs_rp {F : Addr → Prop} {H : Hp} : ∀ {ts : List Th} {us : List V}, TqA F H us ts → ts.all pairT = true → ∃ ds, RpA H us ds ∧ D.deps ds ≤ 2
  | [], _, h, _ => by cases h; exact ⟨[], .nil, by decide⟩
  | t :: ts, _, h, ha => by
    cases h with
    | cons r q =>
      rw [List.all_cons, Bool.and_eq_true] at ha
      obtain ⟨ds, h1, h2⟩ := pairs_rp q ha.2
      obtain ⟨d, h3, h4⟩ := pair_rp r ha.1
      exact ⟨d :: ds, .cons h3 h1, by rw [D.deps]; omega⟩
theorem world_rp {F : Addr → Prop} {H : Hp} {v : V} {t : Th} (h : Tq F H v t) (hw : WorldT t) : ∃ d, Rp H v d ∧ d.dep ≤ 3 := by
  obtain ⟨ts, rfl, _, ha, _⟩ := hw
  obtain ⟨b, us, rfl, eb, rb⟩ := h.tupI
  obtain ⟨ds, h1, h2⟩ := pairs_rp rb ha
  exact ⟨.tup ds, .tup eb h1, by rw [D.dep]; omega⟩
theorem WorldT.nil : WorldT (.tup []) := ⟨[], rfl, by decide, rfl, fun i x y h => by simp at h⟩
def sp_told : Sp := fun vs H Q _ => ∃ v t F, vs = [v] ∧ Tq F H v t ∧ (WorldT t → ∀ l H', H l = none → Chg [] H H' → H' l = some (.lst [v]) → Q (.ref l) H') ∧ (¬ WorldT t → ∀ H', Chg [] H H' → Q (.str "world") H')
/-! ### values, drawn -/
def sp_value (n : Nat) : Sp := fun vs H Q _ => ∃ st dp b l bs ls, vs = [.ref st, .int dp, .ref b, .ref l] ∧ StAt H st ∧ 1 ≤ dp ∧ dp ≤ n ∧ H b = some (.lst (List.map V.str bs)) ∧ H l = some (.lst (List.map V.str ls)) ∧ bs.length ≤ 26 ∧ ls.length ≤ 26 ∧ (∀ z ∈ bs, isNm z = true) ∧ (∀ z ∈ ls, isNm z = true) ∧
  ∀ (v : V) (u : Vl) H', Chg [st] H H' → StAt H' st → Rp H' v u.d → u.ok (fun z => z ∈ bs) (fun z => z ∈ ls) → (u.dp : Int) ≤ dp → Q v H'
theorem wOk {w : Str} (h : w ∈ ([("number" : Str), "box", "size", "not", "item", "set", "push", "pop", "put", "ask", "tell", "fail", "call", "return", "if", "while", "try", "def", "plus", "minus", "less", "same", "times", "over", "rest", "door", "a", "zz"] : List Str)) : PyData.strOk w = true := wordsOk w h
/-! ### values -/
def wPlain : List Str := [Str.ofString "number", Str.ofString "box", Str.ofString "size"]
def wOne : List Str := [Str.ofString "not", Str.ofString "item"]
def wTwo : List Str := [Str.ofString "plus", Str.ofString "minus", Str.ofString "times", Str.ofString "over", Str.ofString "rest", Str.ofString "less", Str.ofString "same"]
def valsIn (w : Str) : Option Nat := if w ∈ wPlain then some 0 else if w ∈ wOne then some 1 else if w ∈ wTwo then some 2 else none
def valsV (w : Str) : V := match valsIn w with
  | some n => .int n
  | none => .non
def plainT (bs ls : List Str) (w : Str) : List Th → Bool
  | [y] => if w = Str.ofString "number" then numT y else if w = Str.ofString "box" then oneT bs y else oneT ls y
  | _ => false
def restT (ls : List Str) (f : Th → Bool) (w : Str) (rest : List Th) : Bool := match valsIn w with
  | none => false
  | some n => if w = Str.ofString "item" then (match rest with | [y, z] => oneT ls y && f z | _ => false) else decide (rest.length = n) && rest.all f
def withinT (bs ls : List Str) : Nat → Th → Bool
  | 0, _ => false
  | n + 1, .tup (.str w :: rest) => if valsIn w = some 0 then plainT bs ls w rest else restT ls (withinT bs ls n) w rest
  | _ + 1, _ => false
theorem withinT_no {bs ls : List Str} {n : Nat} {t : Th} (h : ∀ w rest, t ≠ .tup (.str w :: rest)) : withinT bs ls n t = false := by
  cases n with
  | zero => rfl
  | succ n => rw [withinT]; exact h
def LiN (H : Hp) (b : Addr) (zs : List Str) : Prop := H b = some (.lst (zs.map V.str))
def sp_oneof : Sp := fun vs H Q _ => ∃ v t F b zs, vs = [v, .ref b] ∧ Tq F H v t ∧ H b = some (.lst (zs.map V.str)) ∧ ∀ H', Chg [] H H' → Q (.bl (oneT zs t)) H'
def sp_valsin : Sp := fun vs H Q _ => ∃ w, vs = [.str w] ∧ ∀ H', Chg [] H H' → Q (valsV w) H'
def sp_plain : Sp := fun vs H Q _ => ∃ a xs w rest F b1 b2 bs ls, vs = [.ref a, .ref b1, .ref b2] ∧ H a = some (.tup xs) ∧ TqA F H xs (.str w :: rest) ∧ valsIn w = some 0 ∧ H b1 = some (.lst (bs.map V.str)) ∧ H b2 = some (.lst (ls.map V.str)) ∧ ∀ H', Chg [] H H' → Q (.bl (plainT bs ls w rest)) H'
def sp_within (m : Nat) : Sp := fun vs H Q _ => ∃ v t F b1 b2 bs ls n, vs = [v, .ref b1, .ref b2, .int (n : Nat)] ∧ n < m ∧ Tq F H v t ∧ H b1 = some (.lst (bs.map V.str)) ∧ H b2 = some (.lst (ls.map V.str)) ∧ ∀ H', Chg [] H H' → Q (.bl (withinT bs ls n t)) H'
def sp_value4 : Sp := fun vs H Q _ => ∃ v t F b1 b2 bs ls, vs = [v, .ref b1, .ref b2] ∧ Tq F H v t ∧ H b1 = some (.lst (bs.map V.str)) ∧ H b2 = some (.lst (ls.map V.str)) ∧ ∀ H', Chg [] H H' → Q (.bl (withinT bs ls 4 t)) H'
theorem v_eq_sc {K : PySem.W.Frag} {H : Hp} {Q : VK} {x y : V} (h : scal x y = true) (q : Q (.bl (decide (x = y))) H) : uEq K x y H Q := .inl (.inl ⟨h, q⟩)
theorem v_isn {H : Hp} {Q : VK} {x : V} (q : Q (.bl (decide (x = V.non))) H) : (fun (x y : V) (H : Hp) (Q : VK) => y = V.non ∧ Q (.bl (decide (x = V.non))) H) x .non H Q := ⟨rfl, q⟩
theorem valsIn_le {w : Str} {n : Nat} (h : valsIn w = some n) : n ≤ 2 := by
  unfold valsIn at h
  split at h
  · cases h; omega
  · split at h
    · cases h; omega
    · split at h
      · cases h; omega
      · cases h
theorem item_one : valsIn (Str.ofString "item") = some 1 := by decide
theorem cut_2 (xs : List V) : cutV xs (some 2) none = xs.drop 2 := by
  unfold cutV HT.sIx
  simp only
  match xs with
  | [] => rfl
  | [_] => rfl
  | _ :: _ :: xs => simp
def tailT (f : Th → Bool) (w : Str) (us : List Th) : Bool := match valsIn w with
  | none => false
  | some n => decide (us.length = n) && us.all f
theorem rest_tail {ls : List Str} {f : Th → Bool} {w : Str} {rest : List Th} (h : w ≠ Str.ofString "item") : restT ls f w rest = tailT f w rest := by
  unfold restT tailT
  cases valsIn w with
  | none => rfl
  | some n => simp only [if_neg h]
theorem not_one : valsIn (Str.ofString "not") = some 1 := by decide
theorem plain_cases {w : Str} (h : w ∈ wPlain) (hn : w ≠ Str.ofString "number") : w = Str.ofString "box" ∨ w = Str.ofString "size" := by
  simp only [wPlain, List.mem_cons, List.not_mem_nil, or_false] at h
  rcases h with h | h | h
  · exact absurd h hn
  · exact .inl h
  · exact .inr h
theorem plainT_len {bs ls : List Str} {w : Str} {rest : List Th} (h : rest.length ≠ 1) : plainT bs ls w rest = false := by
  match rest, h with
  | [], _ => rfl
  | [_], h => exact absurd rfl h
  | _ :: _ :: _, _ => rfl
theorem restT_item {ls : List Str} {f : Th → Bool} {rest : List Th} (h : rest.length ≠ 2) : restT ls f (Str.ofString "item") rest = false := by
  unfold restT
  rw [item_one]
  simp only [if_true]
  match rest, h with
  | [], _ => rfl
  | [_], _ => rfl
  | [_, _], h => exact absurd rfl h
  | _ :: _ :: _ :: _, _ => rfl
theorem restT_item2 {ls : List Str} {f : Th → Bool} {y z : Th} : restT ls f (Str.ofString "item") [y, z] = (oneT ls y && f z) := by
  unfold restT
  rw [item_one]
  simp only [if_true]
theorem restT_not {ls : List Str} {f : Th → Bool} {rest : List Th} : restT ls f (Str.ofString "not") rest = (decide (rest.length = 1) && rest.all f) := by
  rw [rest_tail (by decide)]
  unfold tailT
  rw [not_one]
theorem valsIn_two {w : Str} (h : w ∈ wTwo) : valsIn w = some 2 := by
  simp only [wTwo, List.mem_cons, List.not_mem_nil, or_false] at h
  rcases h with rfl | rfl | rfl | rfl | rfl | rfl | rfl <;> decide
theorem restT_two {ls : List Str} {f : Th → Bool} {w : Str} {rest : List Th} (hp : w ∉ wPlain) (hi : w ≠ Str.ofString "item") (hn : w ≠ Str.ofString "not") : restT ls f w rest = (decide (w ∈ wTwo) && (decide (rest.length = 2) && rest.all f)) := by
  rw [rest_tail hi]
  unfold tailT
  by_cases h2 : w ∈ wTwo
  · rw [valsIn_two h2, decide_eq_true h2, Bool.true_and]
  · rw [decide_eq_false h2, Bool.false_and]
    have : valsIn w = none := by
      unfold valsIn
      rw [if_neg hp, if_neg (by simp [wOne]; exact ⟨hn, hi⟩), if_neg h2]
    rw [this]
theorem v_isi_tl {K : PySem.W.Frag} {F : Addr → Prop} {H : Hp} {Q : VK} {v : V} {t : Th} {tp : Addr} (h : Tq F H v t) (e : H tp = some (.tup [.ty "tuple", .ty "list"])) (q : Q (.bl (t.isa "tuple" || t.isa "list")) H) : uIsiT K [v, .ref tp] H Q := by
  obtain ⟨a1, a2, a3, a4, a5, a6⟩ := kits
  obtain ⟨b1, b2, b3, b4, b5, b6⟩ := kitb
  obtain ⟨c1, c2, c3, c4, c5, c6⟩ := kiti
  obtain ⟨d1, d2, d3, d4, d5, d6⟩ := kitt
  obtain ⟨e1, e2, e3, e4, e5, e6⟩ := kitu
  obtain ⟨f1, f2, f3, f4, f5, f6⟩ := kitl
  obtain ⟨g1, g2, g3, g4, g5, g6⟩ := kitd
  cases h with
  | non => exact v_isiT_two (.base .non) e (by assumption) (by assumption) q
  | bl b => exact v_isiT_two (.base (.bl b)) e b4 b5 q
  | int i => exact v_isiT_two (.base (.int i)) e c4 c5 q
  | str h => exact v_isiT_two (.base (.str _)) e d4 d5 q
  | tup h r => exact v_isiT_two (.base (.tup h)) e e4 e5 q
  | lst f h r => exact v_isiT_two (.base (.lst h)) e f4 f5 q
  | dic f h => exact v_isiT_two (.base (.dK h)) e g4 g5 q
mutual
def Th.sz : Th → Nat
  | .tup xs => Th.szs xs + 1
  | .lst xs => Th.szs xs + 1
  | _ => 0
def Th.szs : List Th → Nat
  | [] => 0
  | x :: xs => max x.sz (Th.szs xs)
end
theorem Th.sz_mem {xs : List Th} {x : Th} (h : x ∈ xs) : x.sz ≤ Th.szs xs := by
  induction xs with
  | nil => cases h
  | cons y ys ih =>
    rw [Th.szs]
    rcases List.mem_cons.mp h with rfl | h
    · omega
    · have := ih h; omega
theorem vl_gd {B L : Str → Prop} (hB : ∀ z, B z → isNm z = true) (hL : ∀ z, L z → isNm z = true) : ∀ u : Vl, u.ok B L → gdD u.d = true
  | .num i, h => by
    have h : 0 ≤ i ∧ i < 1000000 := h
    simp only [Vl.d, gdD, gdDs, decide_eq_true h.1, decide_eq_true h.2]; rfl
  | .box z, h => by have := isNm_len (hB z h); simp only [Vl.d, gdD, gdDs, decide_eq_true (show z.length ≤ 100 by omega)]; rfl
  | .size z, h => by have := isNm_len (hL z h); simp only [Vl.d, gdD, gdDs, decide_eq_true (show z.length ≤ 100 by omega)]; rfl
  | .neg v, h => by simp only [Vl.d, gdD, gdDs, vl_gd hB hL v h]; rfl
  | .item z v, h => by have := isNm_len (hL z h.1); simp only [Vl.d, gdD, gdDs, vl_gd hB hL v h.2, decide_eq_true (show z.length ≤ 100 by omega)]; rfl
  | .bin w a b, h => by
    have hw : w.length ≤ 100 := by
      have := h.1
      simp only [binW, List.mem_cons, List.not_mem_nil, or_false] at this
      rcases this with rfl | rfl | rfl | rfl | rfl | rfl | rfl <;> decide
    simp only [Vl.d, gdD, gdDs, vl_gd hB hL a h.2.1, vl_gd hB hL b h.2.2, decide_eq_true hw]; rfl
def sp_thing : Sp := fun vs H Q _ => ∃ st b l bs ls, vs = [.ref st, .ref b, .ref l] ∧ StAt H st ∧ H b = some (.lst (List.map V.str bs)) ∧ H l = some (.lst (List.map V.str ls)) ∧ bs.length ≤ 26 ∧ ls.length ≤ 26 ∧ (∀ z ∈ bs, isNm z = true) ∧ (∀ z ∈ ls, isNm z = true) ∧
  ∀ (v : V) H', Chg [st] H H' → StAt H' st → OkV st H' v → Q v H'
def sp_same : Sp := fun vs H Q _ => ∃ x y : Bool, vs = [.bl x, .bl y] ∧ Q (.bl (x == y)) H
section
variable {P : Program} {w : World} {K : PySem.W.Frag} {mg : Str → Option Value} {base : Heap}
abbrev s__law_cell_at : Stmt := topS 13
theorem sc__law_cell_at : FnScope ["_law_script", "_law_k"] ["_law_script", "_law_k"] (defScope s__law_cell_at) := ⟨rfl, rfl, rfl, by decide +kernel, rfl, by decide +kernel, by decide +kernel⟩
theorem ok__law_cell_at (T : Txt K mg) (D : DefAt K mg "_law_cell_at" s__law_cell_at) : Own P w K mg base "_law_cell_at" 1 ["_law_script", "_law_k"] (sp_cell K) := by
  refine own_of D (fun _ _ _ _ _ _ us hl => match us, hl with | [_, _], _ => rfl) (fnW_of (N := ["_law_script", "_law_k"]) sc__law_cell_at (fun vs H Q E h => ?_) (fun f cdv A outer s H vs Q E hr h => ?_))
  · obtain ⟨a, ns, k, rfl, _⟩ := h; rfl
  · have nd := sc__law_cell_at.nd
    have hu := L2H.roomH_of hr
    refine ⟨_, (pss_cons (ps_if (pt_cmpR op_ult (pv 1) (pe_callB (call_ulen (K := K)) (by rfl) T.n_len (by decide +kernel) (pa_cons (pv 0) pa_nil)) (nomark _))
      (pss_one (ps_ret (pe_ix (ix_u (K := K) hu) (pv 0) (pv 1) (fun _ _ => rfl)))) pss_nil)
      (pss_one (ps_ret pe_int))), ?_⟩
    clear nd
    obtain ⟨a, ns, k, rfl, hS, hl, k0, q⟩ := h
    walk_at "vs"
    refine v_len_l hS ?_
    walk_at "vs"
    refine v_iteD (fun hk => ?_) (fun hk => ?_)
    · walk_at "vs"
      refine v_ix_lany hS k0 hk fun v hv => ?_
      rw [List.getElem?_map] at hv
      cases e : ns[k.toNat]? with
      | none => rw [e] at hv; cases hv
      | some z => rw [e] at hv; cases hv; exact q z
    · walk_at "vs"
      exact q 0
abbrev s__law_state : Stmt := topS 14
theorem sc__law_state : FnScope ["_law_cell", "_law_k", "_law_drawn"] ["_law_cell", "_law_k"] (defScope s__law_state) := ⟨rfl, rfl, rfl, by decide +kernel, rfl, by decide +kernel, by decide +kernel⟩
theorem ok__law_state (T : Txt K mg) (D : DefAt K mg "_law_state" s__law_state) : Own P w K mg base "_law_state" 1 ["_law_cell", "_law_k"] (sp_state) := by
  refine own_of D (fun _ _ _ _ _ _ us hl => match us, hl with | [_, _], _ => rfl) (fnW_of (N := ["_law_cell", "_law_k", "_law_drawn"]) sc__law_state (fun vs H Q E h => ?_) (fun f cdv A outer s H vs Q E hr h => ?_))
  · obtain ⟨c, k, rfl, _⟩ := h; rfl
  · have nd := sc__law_state.nd
    have hu := L2H.roomH_of hr
    refine ⟨_, (pss_cons (ps_set (i := 2) nd rfl (by first | exact Or.inl rfl | exact Or.inr rfl) (pe_op op_mod (pe_op op_umul (pe_op (op_uadd (K := K)) (pe_op (op_uadd (K := K)) (pv 0) (pe_op op_umul pe_int (pv 1))) pe_int) pe_int) pe_int))
      (pss_one (ps_ret (pe_lst (pa_cons (pe_op op_mod (pe_op (op_uadd (K := K)) (pe_op (op_uadd (K := K)) (pe_op op_umul (pv 2) (pv 2)) (pe_op op_umul pe_int (pv 2))) (pv 1)) pe_int) pa_nil))))), ?_⟩
    clear nd
    obtain ⟨c, k, rfl, q⟩ := h
    walk_at "vs"
    refine v_newL (line9 (by show 1 ≤ 10000; decide)) fun st H1 n1 c1 h1 => ?_
    exact q st H1 n1 c1 ⟨_, h1, by omega, by omega⟩
abbrev s__law_next : Stmt := topS 15
theorem sc__law_next : FnScope ["_law_state_here", "_law_size", "_law_mixed"] ["_law_state_here", "_law_size"] (defScope s__law_next) := ⟨rfl, rfl, rfl, by decide +kernel, rfl, by decide +kernel, by decide +kernel⟩
theorem ok__law_next (T : Txt K mg) (D : DefAt K mg "_law_next" s__law_next) : Own P w K mg base "_law_next" 1 ["_law_state_here", "_law_size"] (sp_next) := by
  refine own_of D (fun _ _ _ _ _ _ us hl => match us, hl with | [_, _], _ => rfl) (fnW_of (N := ["_law_state_here", "_law_size", "_law_mixed"]) sc__law_next (fun vs H Q E h => ?_) (fun f cdv A outer s H vs Q E hr h => ?_))
  · obtain ⟨st, n, rfl, _⟩ := h; rfl
  · have nd := sc__law_next.nd
    have hu := L2H.roomH_of hr
    refine ⟨_, (pss_cons (ps_asg (pe_op op_mod (pe_op (op_uadd (K := K)) (pe_op op_umul (pe_ix (ix_u (K := K) hu) (pv 0) pe_int (fun _ _ => rfl)) pe_int) pe_int) pe_int) (pg_sub (pv 0) pe_int (set_u hu)))
      (pss_cons (ps_set (i := 2) nd rfl (by first | exact Or.inl rfl | exact Or.inr rfl) (pe_op op_mod (pe_op op_umul (pe_ix (ix_u (K := K) hu) (pv 0) pe_int (fun _ _ => rfl)) (pe_ix (ix_u (K := K) hu) (pv 0) pe_int (fun _ _ => rfl))) pe_int))
      (pss_one (ps_ret (pe_op op_mod (pe_op op_fdiv (pv 2) pe_int) (pv 1)))))), ?_⟩
    clear nd
    obtain ⟨st, n, rfl, ⟨z, hz, z0, z1⟩, n1, q⟩ := h
    walk_at "vs"
    refine v_ix_l (SqL.of hz) rfl ?_
    walk_at "vs"
    refine v_set_l hz rfl fun H1 c1 h1 => ?_
    walk_at "vs"
    refine v_ix_l (SqL.of h1) rfl ?_
    walk_at "vs"
    refine v_ix_l (SqL.of h1) rfl ?_
    walk_at "vs"
    exact q _ H1 (Int.emod_nonneg _ (by omega)) (Int.emod_lt_of_pos _ (by omega)) c1 ⟨_, h1, by omega, by omega⟩
abbrev s__law_names : Stmt := topS 16
theorem sc__law_names : FnScope ["_law_state_here", "_law_amount", "_law_letters", "_law_shift", "_law_found", "_law_k", "_law_name", "_law_turn", "_law_words"] ["_law_state_here", "_law_amount"] (defScope s__law_names) := ⟨rfl, rfl, rfl, by decide +kernel, rfl, by decide +kernel, by decide +kernel⟩
theorem ok__law_names (T : Txt K mg) (D : DefAt K mg "_law_names" s__law_names) (O__law_next : Own P w K mg base "_law_next" 1 ["_law_state_here", "_law_size"] (sp_next)) : Own P w K mg base "_law_names" 2 ["_law_state_here", "_law_amount"] (sp_names) := by
  refine own_of D (fun _ _ _ _ _ _ us hl => match us, hl with | [_, _], _ => rfl) (fnW_of (N := ["_law_state_here", "_law_amount", "_law_letters", "_law_shift", "_law_found", "_law_k", "_law_name", "_law_turn", "_law_words"]) sc__law_names (fun vs H Q E h => ?_) (fun f cdv A outer s H vs Q E hr h => ?_))
  · obtain ⟨st, n, rfl, _⟩ := h; rfl
  · have nd := sc__law_names.nd
    have hu := L2H.roomH_of hr
    have TK : L2N.Takes (cxOf (L2N.CX P w) P w K mg base ["_law_state_here", "_law_amount", "_law_letters", "_law_shift", "_law_found", "_law_k", "_law_name", "_law_turn", "_law_words"] "_law_names" (defScope s__law_names) f cdv A outer s H E) (fun cls d _ H => E cls d H) := L2N.takes_of rfl rfl rfl rfl
    refine ⟨_, (pss_cons (ps_set (i := 2) nd rfl (by first | exact Or.inl rfl | exact Or.inr rfl) pe_str)
      (pss_cons (ps_set (i := 3) nd rfl (by first | exact Or.inl rfl | exact Or.inr rfl) (pe_own O__law_next (by decide) hr rfl (fun σ => L2N.passAt TK σ) (pa_cons (pv 0) (pa_cons pe_int pa_nil))))
      (pss_cons (ps_set (i := 4) nd rfl (by first | exact Or.inl rfl | exact Or.inr rfl) (pe_lst pa_nil))
      (pss_cons (ps_for (passes_of rfl) rfl (pi_range1 rfl T.n_range (pa_cons (pv 1) pa_nil)) (pg_name (i := 5) nd rfl (by first | exact Or.inl rfl | exact Or.inr rfl))
      (pss_cons (ps_set (i := 6) nd rfl (by first | exact Or.inl rfl | exact Or.inr rfl) (pe_ix (ix_u (K := K) hu) (pv 2) (pe_op op_mod (pe_op (op_uadd (K := K)) (pv 3) (pv 5)) pe_int) (fun _ _ => rfl)))
      (pss_cons (ps_for (passes_of rfl) rfl (pi_range1 rfl T.n_range (pa_cons (pe_ix (ix_u (K := K) hu) (pe_lst (pa_cons pe_int (pa_cons pe_int (pa_cons pe_int (pa_cons pe_int (pa_cons (pe_own O__law_next (by decide) hr rfl (fun σ => L2N.passAt TK σ) (pa_cons (pv 0) (pa_cons pe_int pa_nil))) pa_nil)))))) (pe_own O__law_next (by decide) hr rfl (fun σ => L2N.passAt TK σ) (pa_cons (pv 0) (pa_cons pe_int pa_nil))) (fun _ _ => rfl)) pa_nil)) (pg_name (i := 7) nd rfl (by first | exact Or.inl rfl | exact Or.inr rfl))
      (pss_one (ps_set (i := 6) nd rfl (by first | exact Or.inl rfl | exact Or.inr rfl) (pe_op (op_uadd (K := K)) (pe_ix (ix_u (K := K) hu) (pv 2) (pe_own O__law_next (by decide) hr rfl (fun σ => L2N.passAt TK σ) (pa_cons (pv 0) (pa_cons pe_int pa_nil))) (fun _ _ => rfl)) (pv 6)))))
      (pss_cons (ps_if (pt_cmpR (op_ueq (K := K) hu) (pe_own O__law_next (by decide) hr rfl (fun σ => L2N.passAt TK σ) (pa_cons (pv 0) (pa_cons pe_int pa_nil))) pe_int (nomark _))
      (pss_cons (ps_set (i := 8) nd rfl (by first | exact Or.inl rfl | exact Or.inr rfl) (pe_lst (pa_cons pe_str (pa_cons pe_str (pa_cons pe_str (pa_cons pe_str (pa_cons pe_str (pa_cons pe_str (pa_cons pe_str (pa_cons pe_str (pa_cons pe_str (pa_cons pe_str (pa_cons pe_str pa_nil)))))))))))))
      (pss_one (ps_set (i := 6) nd rfl (by first | exact Or.inl rfl | exact Or.inr rfl) (pe_ix (ix_u (K := K) hu) (pe_op (op_uadd (K := K)) (pv 8) (pe_lst (pa_cons pe_str (pa_cons pe_str (pa_cons pe_str (pa_cons pe_str (pa_cons pe_str (pa_cons pe_str pa_nil)))))))) (pe_own O__law_next (by decide) hr rfl (fun σ => L2N.passAt TK σ) (pa_cons (pv 0) (pa_cons pe_int pa_nil))) (fun _ _ => rfl))))) pss_nil)
      (pss_cons (ps_if (pt_cmpR (op_uin (K := K) hu) (pv 6) (pv 4) rfl)
      (pss_one (ps_set (i := 6) nd rfl (by first | exact Or.inl rfl | exact Or.inr rfl) (pe_ix (ix_u (K := K) hu) (pv 2) (pe_op op_mod (pe_op (op_uadd (K := K)) (pv 3) (pv 5)) pe_int) (fun _ _ => rfl)))) pss_nil)
      (pss_one (ps_expr (pe_bm PySem.F.plainAttrs_list PySem.F.slot_list_append PySem.F.type_list_append mt_append (pv 4) (pa_cons (pv 6) pa_nil)))))))))
      (pss_one (ps_ret (pv 4))))))), ?_⟩
    clear nd
    obtain ⟨st, n, rfl, hst, n0, n1, q⟩ := h
    walk_at "vs"
    refine ⟨st, 26, rfl, hst, by omega, fun sh H2 sh0 sh1 c2 hst2 => ?_⟩
    walk_at "vs"
    refine v_newL (line9 (by show 0 ≤ 10000; decide)) fun f1 H3 nf c3 hf => ?_
    have nf0 : H f1 = none := c2.dom nf
    have fst : f1 ≠ st := by rintro rfl; obtain ⟨z, e, _⟩ := hst; rw [nf0] at e; cases e
    walk_at "vs"
    refine v_rng1' (by omega) (by omega) ?_
    refine v_for_range (fun i σ H' => ∃ (v1 v2 v3 v4 : Option V) (zs : List Str), σ = [some (.ref st), some (.int n), some (.str "abcdefghijklmnopqrstuvwxyz"), some (.int sh), some (.ref f1), v1, v2, v3, v4] ∧ Chg [st, f1] H3 H' ∧ StAt H' st ∧ H' f1 = some (.lst (zs.map V.str)) ∧
      zs.length = i ∧ (∀ z ∈ zs, isNm z = true) ∧ zs.Nodup ∧ (∀ z ∈ zs, 2 ≤ z.length ∨ ∃ j : Int, 0 ≤ j ∧ j < i ∧ z = ⟨#[97 + ((sh + j) % 26).toNat]⟩)) ⟨none, none, none, none, [], rfl, .refl, hst2.on0 c3, hf, rfl, by simp, by simp, by simp⟩ ?_ ?_
    · rintro i σ H4 hi ⟨v1, v2, v3, v4, zs, rfl, c4, hst4, hf4, hl, hnm, hnd, hone⟩
      have l0 : 0 ≤ (sh + (0 + (i : Int))) % 26 := Int.emod_nonneg _ (by decide)
      have l1 : (sh + (0 + (i : Int))) % 26 < 26 := Int.emod_lt_of_pos _ (by decide)
      have one : isNm ⟨#[97 + ((sh + (0 + (i : Int))) % 26).toNat]⟩ = true := isNm_one (by omega) (by omega)
      have fresh : (⟨#[97 + ((sh + (0 + (i : Int))) % 26).toNat]⟩ : Str) ∉ zs := fun m => by
        rcases hone _ m with h | ⟨j, j0, j1, e⟩
        · exact absurd h (by show ¬ 2 ≤ 1; decide)
        · have := str1_inj e
          omega
      have put : ∀ (x : Str) (H5 : Hp) (v7 v8 v9 : Option V), isNm x = true → x ∉ zs → (2 ≤ x.length ∨ x = ⟨#[97 + ((sh + (0 + (i : Int))) % 26).toNat]⟩) → Chg [st, f1] H3 H5 → StAt H5 st → H5 f1 = some (.lst (zs.map V.str)) →
          rAppend (.ref f1) [.str x] H5 fun _ H6 => ∃ (v1 v2 v3 v4 : Option V) (zs' : List Str), [some (V.ref st), some (.int n), some (.str "abcdefghijklmnopqrstuvwxyz"), some (.int sh), some (.ref f1), some (.int (0 + i)), some (.str x), v8, v9] = [some (.ref st), some (.int n), some (.str "abcdefghijklmnopqrstuvwxyz"), some (.int sh), some (.ref f1), v1, v2, v3, v4] ∧ Chg [st, f1] H3 H6 ∧ StAt H6 st ∧ H6 f1 = some (.lst (zs'.map V.str)) ∧
      zs'.length = i + 1 ∧ (∀ z ∈ zs', isNm z = true) ∧ zs'.Nodup ∧ (∀ z ∈ zs', 2 ≤ z.length ∨ ∃ j : Int, 0 ≤ j ∧ j < ((i + 1 : Nat) : Int) ∧ z = ⟨#[97 + ((sh + j) % 26).toNat]⟩) := by
        intro x H5 v7 v8 v9 hx hn hx1 c5 hst5 hf5
        refine v_append hf5 (by rw [List.length_map, hl]; exact line9' (by omega)) fun H6 c6 hf6 => ?_
        refine ⟨_, _, v8, v9, zs ++ [x], rfl, c5.trans (c6.mono (by simp)), hst5.on c6 (by simpa using fun e => fst e.symm), by rw [hf6, List.map_append]; rfl, by simp [hl], ?_, ?_, ?_⟩
        · intro z hz
          rcases List.mem_append.mp hz with h | h
          · exact hnm z h
          · rw [List.mem_singleton] at h; subst h; exact hx
        · rw [List.nodup_append]
          refine ⟨hnd, by simp, ?_⟩
          intro a ha b hb e
          rw [List.mem_singleton] at hb
          subst hb; subst e; exact hn ha
        · intro z hz
          rcases List.mem_append.mp hz with h | h
          · rcases hone z h with h | ⟨j, j0, j1, e⟩
            · exact .inl h
            · exact .inr ⟨j, j0, by omega, e⟩
          · rw [List.mem_singleton] at h
            subst h
            rcases hx1 with h | h
            · exact .inl h
            · exact .inr ⟨0 + i, by omega, by omega, h⟩
      walk_at "vs"
      refine v_ix_s abc_line (abc_ix l0 l1) ?_
      walk_at "vs"
      refine ⟨st, 6, rfl, hst4, by omega, fun r1 H5 r10 r11 c5 hst5 => ?_⟩
      walk_at "vs"
      refine v_newL (line9 (by show 5 ≤ 10000; decide)) fun g0 H6 ng0 c6 hg0 => ?_
      walk_at "vs"
      refine ⟨st, 5, rfl, hst5.on0 c6, by omega, fun r2 H7 r20 r21 c7 hst7 => ?_⟩
      walk_at "vs"
      have ng0st : st ≠ g0 := by rintro rfl; obtain ⟨z, e, _⟩ := hst5; rw [ng0] at e; cases e
      have ng0f : f1 ≠ g0 := by rintro rfl; rw [c5.dom ng0] at hf4; cases hf4
      refine v_ix_lany (SqL.of (c7.keep hg0 (by simpa using fun e => ng0st e.symm))) r20 (by show r2 < 5; omega) fun v hv => ?_
      obtain ⟨m, rfl, m0, m1⟩ : ∃ m : Int, v = .int m ∧ 0 ≤ m ∧ m ≤ 5 := by
        have := List.mem_of_getElem? hv
        simp only [List.mem_cons, List.not_mem_nil, or_false] at this
        rcases this with rfl | rfl | rfl | rfl | rfl
        all_goals exact ⟨_, rfl, by omega, by omega⟩
      have c47 : Chg [st] H4 H7 := (c5.trans c6.of0).trans c7
      walk_at "vs"
      refine v_rng1' (by omega) (by omega) ?_
      refine v_for_range (fun j σ H' => ∃ (v7 : Option V) (x : Str), σ = [some (.ref st), some (.int n), some (.str "abcdefghijklmnopqrstuvwxyz"), some (.int sh), some (.ref f1), some (.int (0 + i)), some (.str x), v7, v4] ∧ Chg [st] H4 H' ∧ StAt H' st ∧ x.length = j + 1 ∧ isNm x = true ∧ (j = 0 → x = ⟨#[97 + ((sh + (0 + (i : Int))) % 26).toNat]⟩))
        ⟨v3, _, rfl, c47, hst7, rfl, one, fun _ => rfl⟩ ?_ ?_
      · rintro j σ H8 hj ⟨v7, x, rfl, c8, hst8, hxl, hx, _⟩
        walk_at "vs"
        refine ⟨st, 26, rfl, hst8, by omega, fun r3 H9 r30 r31 c9 hst9 => ?_⟩
        walk_at "vs"
        refine v_ix_s abc_line (abc_ix r30 r31) ?_
        walk_at "vs"
        refine v_add_ss (line9 (by show 1 + x.length ≤ 10000; omega)) ?_
        walk_at "vs"
        have hl2 : ((⟨#[97 + r3.toNat]⟩ : Str) ++ x).length = j + 1 + 1 := by
          rw [Str.length_append, hxl]
          show 1 + (j + 1) = _
          omega
        refine ⟨_, _, rfl, c8.trans c9, hst9, hl2, ?_, fun h => by omega⟩
        have hc := hx
        simp only [isNm, Bool.and_eq_true, decide_eq_true_eq, List.all_eq_true] at hc ⊢
        refine ⟨⟨by omega, by omega⟩, fun c hm => ?_⟩
        have hm2 : c ∈ (#[97 + r3.toNat] : Array Nat).toList ++ x.cps.toList := by rw [← Array.toList_append]; exact hm
        rcases List.mem_append.mp hm2 with h | h
        · simp at h; omega
        · exact hc.2 c h
      · rintro σ H8 ⟨v7, x, rfl, c8, hst8, hxl, hx, hx0⟩
        have c38 : Chg [st, f1] H3 H8 := c4.trans (c8.mono (by simp))
        have hf8 : H8 f1 = some (.lst (zs.map V.str)) := c8.keep hf4 (by simpa using fst)
        have hx2 : 2 ≤ x.length ∨ x = ⟨#[97 + ((sh + (0 + (i : Int))) % 26).toNat]⟩ := by
          by_cases z : (m.toNat - 0 : Nat) = 0
          · exact .inr (hx0 (by omega))
          · exact .inl (by omega)
        walk_at "vp"
        refine v_join (fun σ H9 => ∃ (y : Str) (v9 : Option V), σ = [some (.ref st), some (.int n), some (.str "abcdefghijklmnopqrstuvwxyz"), some (.int sh), some (.ref f1), some (.int (0 + i)), some (.str y), v7, v9] ∧ isNm y = true ∧ (2 ≤ y.length ∨ y = ⟨#[97 + ((sh + (0 + (i : Int))) % 26).toNat]⟩) ∧ Chg [st, f1] H3 H9 ∧ StAt H9 st ∧ H9 f1 = some (.lst (zs.map V.str))) ?_ ?_
        · rintro σ H9 ⟨y, v9, rfl, hy, hy1, c9, hst9, hf9⟩
          walk_at "vs"
          refine v_in_l (SqL.of hf9) rfl (RT.flat_strs zs) ?_
          rw [inV_strs]
          walk_at "vs"
          refine v_iteD (fun hm => ?_) (fun hm => ?_)
          · walk_at "vs"
            refine v_ix_s abc_line (abc_ix l0 l1) ?_
            walk_at "vs"
            refine v_bml (SqL.of hf9) ?_
            walk_at "vs"
            exact put _ H9 none v7 v9 one fresh (.inr rfl) c9 hst9 hf9
          · walk_at "vs"
            refine v_bml (SqL.of hf9) ?_
            walk_at "vs"
            exact put _ H9 none v7 v9 hy hm hy1 c9 hst9 hf9
        · intro U hU
          walk_at "vs"
          refine ⟨st, 6, rfl, hst8, by omega, fun r4 H9 _ _ c9 hst9 => ?_⟩
          have c39 : Chg [st, f1] H3 H9 := c38.trans (c9.mono (by simp))
          have hf9 : H9 f1 = some (.lst (zs.map V.str)) := c9.keep hf8 (by simpa using fst)
          walk_at "vs"
          refine v_iteD (fun hk => ?_) (fun hk => ?_)
          · walk_at "vs"
            refine v_newL (line9 (by show 11 ≤ 10000; decide)) fun w1 H10 nw1 c10 hw1 => ?_
            walk_at "vs"
            refine v_newL (line9 (by show 6 ≤ 10000; decide)) fun w2 H11 nw2 c11 hw2 => ?_
            refine v_add_ll (c11.at hw1) hw2 (line9 (by decide)) fun w3 H12 nw3 c12 hw3 => ?_
            walk_at "vs"
            have c912 := (c10.trans c11).trans c12
            refine ⟨st, 17, rfl, hst9.on0 c912, by omega, fun r5 H13 r50 r51 c13 hst13 => ?_⟩
            have nw3st : st ≠ w3 := by rintro rfl; obtain ⟨z, e, _⟩ := hst9.on0 (c10.trans c11); rw [nw3] at e; cases e
            refine v_ix_lany (SqL.of (c13.keep hw3 (by simpa using fun e => nw3st e.symm))) r50 (by show r5 < 17; omega) fun v hv => ?_
            obtain ⟨y, rfl, hy, hy2⟩ : ∃ y, v = .str y ∧ isNm y = true ∧ 2 ≤ y.length := by
              have := List.mem_of_getElem? hv
              simp only [List.mem_append, List.mem_cons, List.not_mem_nil, or_false] at this
              rcases this with (rfl | rfl | rfl | rfl | rfl | rfl | rfl | rfl | rfl | rfl | rfl) | (rfl | rfl | rfl | rfl | rfl | rfl)
              all_goals exact ⟨_, rfl, by decide +kernel, by decide +kernel⟩
            walk_at "vs"
            exact hU _ _ ⟨y, _, rfl, hy, .inl hy2, (c39.trans c912.of0).trans (c13.mono (by simp)), hst13, c13.keep (c912.at hf9) (by simpa using fst)⟩
          · walk_at "vs"
            exact hU _ _ ⟨x, _, rfl, hx, hx2, c39, hst9, hf9⟩
    · rintro σ H4 ⟨v1, v2, v3, v4, zs, rfl, c4, hst4, hf4, hl, hnm, hnd, hone⟩
      walk_at "vs"
      refine q f1 zs H4 nf0 ?_ hst4 hf4 (by omega) hnm hnd
      refine (c2.trans c3.of0).trans' c4 fun l hm => ?_
      simp only [List.mem_cons, List.not_mem_nil, or_false] at hm
      rcases hm with rfl | rfl
      · exact .inl (by simp)
      · exact .inr nf0
abbrev s_is_name : Stmt := topS 5
theorem sc_is_name : FnScope ["thing", "sign"] ["thing"] (defScope s_is_name) := ⟨rfl, rfl, rfl, by decide +kernel, rfl, by decide +kernel, by decide +kernel⟩
theorem ok_is_name (T : Txt K mg) (D : DefAt K mg "is_name" s_is_name) : Own P w K mg base "is_name" 1 ["thing"] (sp_isname) := by
  refine own_of D (fun _ _ _ _ _ _ us hl => match us, hl with | [_], _ => rfl) (fnW_of (N := ["thing", "sign"]) sc_is_name (fun vs H Q E h => ?_) (fun f cdv A outer s H vs Q E hr h => ?_))
  · obtain ⟨v, t, F, rfl, _⟩ := h; rfl
  · have nd := sc_is_name.nd
    have hu := L2H.roomH_of hr
    refine ⟨_, (pss_cons (ps_if (PW.pt (pw_or (pt_not (pt_u (K := K) (pe_callB (call_uisi (K := K)) (by rfl) T.n_isinstance (by decide +kernel) (pa_cons (pv 0) (pa_cons (pe_bltn (v := .ty "str") (by rfl) T.n_str (by decide +kernel) rfl) pa_nil))))) (pw_or1 (pt_not (pt_chain op_le op_le pe_int (pe_callB (call_ulen (K := K)) (by rfl) T.n_len (by decide +kernel) (pa_cons (pv 0) pa_nil)) (pe_con_ T.c_LONGEST_NAME rfl))))))
      (pss_one (ps_ret pe_bl)) pss_nil)
      (pss_cons (ps_for (passes_of rfl) rfl (pi_u (K := K) (pv 0)) (pg_name (i := 1) nd rfl (by first | exact Or.inl rfl | exact Or.inr rfl))
      (pss_one (ps_if (pt_cmpR (op_unin (K := K) hu) (pv 1) (pe_con_ T.c_LETTERS rfl) rfl)
      (pss_one (ps_ret pe_bl)) pss_nil)))
      (pss_one (ps_ret pe_bl)))), ?_⟩
    clear nd
    obtain ⟨v, t, F, rfl, ht, q⟩ := h
    cases ht with
    | str hl =>
      rename_i z
      walk_at "vs"
      refine v_len_s (line9 (by omega)) ?_
      walk_at "vs"
      refine v_iteD (fun h1 => ?_) (fun h1 => ?_)
      · walk_at "vs"
        refine v_iteN (fun h2 => ?_) (fun h2 => ?_)
        · walk_at "vs"
          have := q H .refl
          rw [nameT, isNm_short (by omega)] at this
          exact this
        · walk_at "vs"
          refine v_it_s ?_
          refine v_for_str (fun i σ H' => (∃ v2, σ = [some (.str z), v2]) ∧ H' = H ∧ ∀ (j x : Nat), j < i → z.cps.toList[j]? = some x → x ∈ (Str.ofString "abcdefghijklmnopqrstuvwxyz").cps.toList) ⟨⟨none, rfl⟩, rfl, by omega⟩ ?_ ?_
          · rintro i x σ H' hx ⟨⟨v2, rfl⟩, rfl, hp⟩
            walk_at "vs"
            refine v_nin_sg ?_
            walk_at "vs"
            refine v_iteN (fun hn => ?_) (fun hm => ?_)
            · walk_at "vs"
              have := q _ .refl
              rw [nameT, isNm_no hx hn] at this
              exact this
            · walk_at "vs"
              refine ⟨⟨_, rfl⟩, rfl, fun j y hj hy => ?_⟩
              by_cases e : j < i
              · exact hp j y e hy
              · have : j = i := by omega
                subst this
                rw [hx] at hy; cases hy; exact hm
          · rintro σ H' ⟨⟨v2, rfl⟩, rfl, hp⟩
            walk_at "vs"
            have := q _ .refl
            rw [nameT, isNm_yes (by omega) (by omega) hp] at this
            exact this
      · walk_at "vs"
        have := q H .refl
        rw [nameT, isNm_short (by omega)] at this
        exact this
    | tup e r => walk_at "vs"; refine v_isi_t_str e ?_; walk_at "vs"; exact q H .refl
    | lst f e r => walk_at "vs"; refine v_isi_l_str e ?_; walk_at "vs"; exact q H .refl
    | dic f e => walk_at "vs"; refine v_isi_d0 e (by simp [sixT]) (by decide) ?_; walk_at "vs"; exact q H .refl
    | non => walk_at "vs"; exact q H .refl
    | bl b => walk_at "vs"; exact q H .refl
    | int i => walk_at "vs"; exact q H .refl
abbrev s_is_number : Stmt := topS 6
theorem sc_is_number : FnScope ["thing"] ["thing"] (defScope s_is_number) := ⟨rfl, rfl, rfl, by decide +kernel, rfl, by decide +kernel, by decide +kernel⟩
theorem ok_is_number (T : Txt K mg) (D : DefAt K mg "is_number" s_is_number) : Own P w K mg base "is_number" 1 ["thing"] (sp_isnum) := by
  refine own_of D (fun _ _ _ _ _ _ us hl => match us, hl with | [_], _ => rfl) (fnW_of (N := ["thing"]) sc_is_number (fun vs H Q E h => ?_) (fun f cdv A outer s H vs Q E hr h => ?_))
  · obtain ⟨v, t, F, rfl, _⟩ := h; rfl
  · have nd := sc_is_number.nd
    have hu := L2H.roomH_of hr
    refine ⟨_, (pss_one (ps_ret (pe_and (pe_callB (call_uisi (K := K)) (by rfl) T.n_isinstance (by decide +kernel) (pa_cons (pv 0) (pa_cons (pe_bltn (v := .ty "int") (by rfl) T.n_int (by decide +kernel) rfl) pa_nil))) (pe_and (pe_notU (K := K) (pe_callB (call_uisi (K := K)) (by rfl) T.n_isinstance (by decide +kernel) (pa_cons (pv 0) (pa_cons (pe_bltn (v := .ty "bool") (by rfl) T.n_bool (by decide +kernel) rfl) pa_nil)))) (pe_one (pe_chain op_le op_le pe_int (pv 0) (pe_con_ T.c_GREATEST rfl))))))), ?_⟩
    clear nd
    obtain ⟨v, t, F, rfl, ht, q⟩ := h
    cases ht with
    | str hl => walk_at "vs"; exact q H .refl
    | tup e r => walk_at "vs"; refine v_isi_t_int e ?_; walk_at "vs"; exact q H .refl
    | lst f e r => walk_at "vs"; refine v_isi_l_int e ?_; walk_at "vs"; exact q H .refl
    | dic f e => walk_at "vs"; refine v_isi_d0 e (by simp [sixT]) (by decide) ?_; walk_at "vs"; exact q H .refl
    | non => walk_at "vs"; exact q H .refl
    | bl b => walk_at "vs"; exact q H .refl
    | int i =>
      have := q H .refl
      walk_at "vs"
      refine v_iteD (fun h1 => ?_) (fun h1 => ?_)
      · walk_at "vs"
        rw [numT, decide_eq_true h1, Bool.true_and, show decide (i < 1000000) = decide (i ≤ 999999) from decide_eq_decide.mpr (by omega)] at this
        exact this
      · rw [numT, decide_eq_false h1] at this
        exact this
abbrev s_is_one_of : Stmt := topS 7
theorem sc_is_one_of : FnScope ["thing", "names"] ["thing", "names"] (defScope s_is_one_of) := ⟨rfl, rfl, rfl, by decide +kernel, rfl, by decide +kernel, by decide +kernel⟩
theorem ok_is_one_of (T : Txt K mg) (D : DefAt K mg "is_one_of" s_is_one_of) : Own P w K mg base "is_one_of" 1 ["thing", "names"] (sp_oneof) := by
  refine own_of D (fun _ _ _ _ _ _ us hl => match us, hl with | [_, _], _ => rfl) (fnW_of (N := ["thing", "names"]) sc_is_one_of (fun vs H Q E h => ?_) (fun f cdv A outer s H vs Q E hr h => ?_))
  · obtain ⟨v, t, F, b, zs, rfl, _⟩ := h; rfl
  · have nd := sc_is_one_of.nd
    have hu := L2H.roomH_of hr
    refine ⟨_, (pss_one (ps_ret (pe_and (pe_callB (call_uisi (K := K)) (by rfl) T.n_isinstance (by decide +kernel) (pa_cons (pv 0) (pa_cons (pe_bltn (v := .ty "str") (by rfl) T.n_str (by decide +kernel) rfl) pa_nil))) (pe_one (pe_cmpR (op_uin (K := K) hu) (pv 0) (pv 1) rfl))))), ?_⟩
    clear nd
    obtain ⟨v, t, F, b, zs, rfl, ht, hb, q⟩ := h
    walk_at "vs"
    refine v_isi_th ht (by simp [sixT]) ?_
    cases ht with
    | str hl =>
      walk_at "vs"
      refine v_iteT ?_
      walk_at "vs"
      refine v_in_l (SqL.of hb) rfl (RT.flat_strs zs) ?_
      rw [inV_strs]
      exact q H .refl
    | tup e r => walk_at "vs"; refine v_iteF ?_; exact q H .refl
    | lst f e r => walk_at "vs"; refine v_iteF ?_; exact q H .refl
    | dic f e => walk_at "vs"; refine v_iteF ?_; exact q H .refl
    | non => walk_at "vs"; refine v_iteF ?_; exact q H .refl
    | bl b => walk_at "vs"; refine v_iteF ?_; exact q H .refl
    | int i => walk_at "vs"; refine v_iteF ?_; exact q H .refl
abbrev s_values_in : Stmt := topS 8
theorem sc_values_in : FnScope ["word"] ["word"] (defScope s_values_in) := ⟨rfl, rfl, rfl, by decide +kernel, rfl, by decide +kernel, by decide +kernel⟩
theorem ok_values_in (T : Txt K mg) (D : DefAt K mg "values_in" s_values_in) : Own P w K mg base "values_in" 1 ["word"] (sp_valsin) := by
  refine own_of D (fun _ _ _ _ _ _ us hl => match us, hl with | [_], _ => rfl) (fnW_of (N := ["word"]) sc_values_in (fun vs H Q E h => ?_) (fun f cdv A outer s H vs Q E hr h => ?_))
  · obtain ⟨w, rfl, _⟩ := h; rfl
  · have nd := sc_values_in.nd
    have hu := L2H.roomH_of hr
    refine ⟨_, (pss_cons (ps_if (pt_cmpR (op_uin (K := K) hu) (pv 0) (pe_tup (pa_cons pe_str (pa_cons pe_str (pa_cons pe_str pa_nil)))) rfl)
      (pss_one (ps_ret pe_int)) pss_nil)
      (pss_cons (ps_if (pt_cmpR (op_uin (K := K) hu) (pv 0) (pe_tup (pa_cons pe_str (pa_cons pe_str pa_nil))) rfl)
      (pss_one (ps_ret pe_int)) pss_nil)
      (pss_cons (ps_if (pt_cmpR (op_uin (K := K) hu) (pv 0) (pe_tup (pa_cons pe_str (pa_cons pe_str (pa_cons pe_str (pa_cons pe_str (pa_cons pe_str (pa_cons pe_str (pa_cons pe_str pa_nil)))))))) rfl)
      (pss_one (ps_ret pe_int)) pss_nil)
      (pss_one (ps_ret pe_non))))), ?_⟩
    clear nd
    obtain ⟨w, rfl, q⟩ := h
    walk_at "vs"
    refine v_newT (line9 (by show 3 ≤ 10000; decide)) fun t1 H1 n1 c1 h1 => ?_
    refine v_in_t (SqT.of h1) rfl rfl ?_
    rw [show [V.str (Str.ofString "number"), V.str (Str.ofString "box"), V.str (Str.ofString "size")] = wPlain.map V.str from rfl, inV_strs]
    walk_at "vs"
    refine v_iteD (fun hm => ?_) (fun hm => ?_)
    · walk_at "vs"
      have := q H1 c1
      rw [valsV, valsIn, if_pos hm] at this
      exact this
    walk_at "vs"
    refine v_newT (line9 (by show 2 ≤ 10000; decide)) fun t2 H2 n2 c2 h2 => ?_
    refine v_in_t (SqT.of h2) rfl rfl ?_
    rw [show [V.str (Str.ofString "not"), V.str (Str.ofString "item")] = wOne.map V.str from rfl, inV_strs]
    walk_at "vs"
    refine v_iteD (fun hm2 => ?_) (fun hm2 => ?_)
    · walk_at "vs"
      have := q H2 (c1.trans c2)
      rw [valsV, valsIn, if_neg hm, if_pos hm2] at this
      exact this
    walk_at "vs"
    refine v_newT (line9 (by show 7 ≤ 10000; decide)) fun t3 H3 n3 c3 h3 => ?_
    refine v_in_t (SqT.of h3) rfl rfl ?_
    rw [show [V.str (Str.ofString "plus"), V.str (Str.ofString "minus"), V.str (Str.ofString "times"), V.str (Str.ofString "over"), V.str (Str.ofString "rest"), V.str (Str.ofString "less"), V.str (Str.ofString "same")] = wTwo.map V.str from rfl, inV_strs]
    walk_at "vs"
    refine v_iteD (fun hm3 => ?_) (fun hm3 => ?_)
    · walk_at "vs"
      have := q H3 ((c1.trans c2).trans c3)
      rw [valsV, valsIn, if_neg hm, if_neg hm2, if_pos hm3] at this
      exact this
    · walk_at "vs"
      have := q H3 ((c1.trans c2).trans c3)
      rw [valsV, valsIn, if_neg hm, if_neg hm2, if_neg hm3] at this
      exact this
abbrev s_is_plain : Stmt := topS 9
theorem sc_is_plain : FnScope ["thing", "boxes", "lists"] ["thing", "boxes", "lists"] (defScope s_is_plain) := ⟨rfl, rfl, rfl, by decide +kernel, rfl, by decide +kernel, by decide +kernel⟩
theorem ok_is_plain (T : Txt K mg) (D : DefAt K mg "is_plain" s_is_plain) (O_is_number : Own P w K mg base "is_number" 1 ["thing"] (sp_isnum)) (O_is_one_of : Own P w K mg base "is_one_of" 1 ["thing", "names"] (sp_oneof)) : Own P w K mg base "is_plain" 2 ["thing", "boxes", "lists"] (sp_plain) := by
  refine own_of D (fun _ _ _ _ _ _ us hl => match us, hl with | [_, _, _], _ => rfl) (fnW_of (N := ["thing", "boxes", "lists"]) sc_is_plain (fun vs H Q E h => ?_) (fun f cdv A outer s H vs Q E hr h => ?_))
  · obtain ⟨a, xs, w, rest, F, b1, b2, bs, ls, rfl, _⟩ := h; rfl
  · have nd := sc_is_plain.nd
    have hu := L2H.roomH_of hr
    have TK : L2N.Takes (cxOf (L2N.CX P w) P w K mg base ["thing", "boxes", "lists"] "is_plain" (defScope s_is_plain) f cdv A outer s H E) (fun cls d _ H => E cls d H) := L2N.takes_of rfl rfl rfl rfl
    refine ⟨_, (pss_cons (ps_if (pt_cmpR (op_une (K := K) hu) (pe_callB (call_ulen (K := K)) (by rfl) T.n_len (by decide +kernel) (pa_cons (pv 0) pa_nil)) pe_int (nomark _))
      (pss_one (ps_ret pe_bl)) pss_nil)
      (pss_cons (ps_if (pt_cmpR (op_ueq (K := K) hu) (pe_ix (ix_u (K := K) hu) (pv 0) pe_int (fun _ _ => rfl)) pe_str (nomark _))
      (pss_one (ps_ret (pe_own O_is_number (by decide) hr rfl (fun σ => L2N.passAt TK σ) (pa_cons (pe_ix (ix_u (K := K) hu) (pv 0) pe_int (fun _ _ => rfl)) pa_nil)))) pss_nil)
      (pss_cons (ps_if (pt_cmpR (op_ueq (K := K) hu) (pe_ix (ix_u (K := K) hu) (pv 0) pe_int (fun _ _ => rfl)) pe_str (nomark _))
      (pss_one (ps_ret (pe_own O_is_one_of (by decide) hr rfl (fun σ => L2N.passAt TK σ) (pa_cons (pe_ix (ix_u (K := K) hu) (pv 0) pe_int (fun _ _ => rfl)) (pa_cons (pv 1) pa_nil))))) pss_nil)
      (pss_one (ps_ret (pe_own O_is_one_of (by decide) hr rfl (fun σ => L2N.passAt TK σ) (pa_cons (pe_ix (ix_u (K := K) hu) (pv 0) pe_int (fun _ _ => rfl)) (pa_cons (pv 2) pa_nil)))))))), ?_⟩
    clear nd
    obtain ⟨a, xs, w, rest, F, b1, b2, bs, ls, rfl, e, r, hw, h1, h2, q⟩ := h
    have hl := r.length
    walk_at "vs"
    refine v_len_t (SqT.of e) ?_
    walk_at "vs"
    refine v_iteN (fun hn => ?_) (fun hn => ?_)
    · walk_at "vs"
      have := q H .refl
      match rest, hl with
      | [], _ => exact this
      | [y], hl => simp at hl; omega
      | _ :: _ :: _, _ => exact this
    match rest, xs, r, hl with
    | [], _, _, hl => simp at hl; omega
    | _ :: _ :: _, _, _, hl => simp at hl; omega
    | [y], [x0, x1], .cons r0 (.cons r1 .nil), _ =>
      cases r0
      walk_at "vs"
      refine v_ix_t (SqT.of e) (atI_0 _ _) ?_
      walk_at "vs"
      refine v_iteD (fun hm => ?_) (fun hm => ?_)
      · walk_at "vs"
        refine v_ix_t (SqT.of e) (atI_1 _ _ _) ?_
        walk_at "vs"
        refine ⟨x1, y, F, rfl, r1, fun H1 c1 => ?_⟩
        have := q H1 c1
        rw [plainT, if_pos hm] at this
        exact this
      walk_at "vs"
      refine v_ix_t (SqT.of e) (atI_0 _ _) ?_
      walk_at "vs"
      refine v_iteD (fun hm2 => ?_) (fun hm2 => ?_)
      · walk_at "vs"
        refine v_ix_t (SqT.of e) (atI_1 _ _ _) ?_
        walk_at "vs"
        refine ⟨x1, y, F, b1, bs, rfl, r1, h1, fun H1 c1 => ?_⟩
        have := q H1 c1
        rw [plainT, if_neg hm, if_pos hm2] at this
        exact this
      · walk_at "vs"
        refine v_ix_t (SqT.of e) (atI_1 _ _ _) ?_
        walk_at "vs"
        refine ⟨x1, y, F, b2, ls, rfl, r1, h2, fun H1 c1 => ?_⟩
        have := q H1 c1
        rw [plainT, if_neg hm, if_neg hm2] at this
        exact this
abbrev s_is_within : Stmt := topS 10
theorem sc_is_within : FnScope ["thing", "boxes", "lists", "deep", "count", "parts", "part"] ["thing", "boxes", "lists", "deep"] (defScope s_is_within) := ⟨rfl, rfl, rfl, by decide +kernel, rfl, by decide +kernel, by decide +kernel⟩
theorem st_is_within (T : Txt K mg) (D : DefAt K mg "is_within" s_is_within) (O_values_in : Own P w K mg base "values_in" 1 ["word"] (sp_valsin)) (O_is_plain : Own P w K mg base "is_plain" 2 ["thing", "boxes", "lists"] (sp_plain)) (O_is_one_of : Own P w K mg base "is_one_of" 1 ["thing", "names"] (sp_oneof)) (n : Nat) (O_is_within : Own P w K mg base "is_within" (3 + n) ["thing", "boxes", "lists", "deep"] (sp_within n)) : Own P w K mg base "is_within" (3 + n + 1) ["thing", "boxes", "lists", "deep"] (sp_within (n + 1)) := by
  refine own_of D (fun _ _ _ _ _ _ us hl => match us, hl with | [_, _, _, _], _ => rfl) (fnW_of (k := 3 + n) (N := ["thing", "boxes", "lists", "deep", "count", "parts", "part"]) sc_is_within (fun vs H Q E h => ?_) (fun f cdv A outer s H vs Q E hr h => ?_))
  · obtain ⟨v, t, F, b1, b2, bs, ls, n, rfl, _⟩ := h; rfl
  · have nd := sc_is_within.nd
    have hu := L2H.roomH_of hr
    have TK : L2N.Takes (cxOf (L2N.CX P w) P w K mg base ["thing", "boxes", "lists", "deep", "count", "parts", "part"] "is_within" (defScope s_is_within) f cdv A outer s H E) (fun cls d _ H => E cls d H) := L2N.takes_of rfl rfl rfl rfl
    refine ⟨_, (pss_cons (ps_if (PW.pt (pw_or (pt_cmpR (op_ueq (K := K) hu) (pv 3) pe_int (nomark _)) (pw_or (pt_not (pt_u (K := K) (pe_callB (call_uisi (K := K)) (by rfl) T.n_isinstance (by decide +kernel) (pa_cons (pv 0) (pa_cons (pe_bltn (v := .ty "tuple") (by rfl) T.n_tuple (by decide +kernel) rfl) pa_nil))))) (pw_or (pt_cmpR (op_ueq (K := K) hu) (pe_callB (call_ulen (K := K)) (by rfl) T.n_len (by decide +kernel) (pa_cons (pv 0) pa_nil)) pe_int (nomark _)) (pw_or1 (pt_not (pt_u (K := K) (pe_callB (call_uisi (K := K)) (by rfl) T.n_isinstance (by decide +kernel) (pa_cons (pe_ix (ix_u (K := K) hu) (pv 0) pe_int (fun _ _ => rfl)) (pa_cons (pe_bltn (v := .ty "str") (by rfl) T.n_str (by decide +kernel) rfl) pa_nil))))))))))
      (pss_one (ps_ret pe_bl)) pss_nil)
      (pss_cons (ps_set (i := 4) nd rfl (by first | exact Or.inl rfl | exact Or.inr rfl) (pe_own O_values_in (by omega) hr rfl (fun σ => L2N.passAt TK σ) (pa_cons (pe_ix (ix_u (K := K) hu) (pv 0) pe_int (fun _ _ => rfl)) pa_nil)))
      (pss_cons (ps_if (pt_cmpR (op_ueq (K := K) hu) (pv 4) pe_int (nomark _))
      (pss_one (ps_ret (pe_own O_is_plain (by omega) hr rfl (fun σ => L2N.passAt TK σ) (pa_cons (pv 0) (pa_cons (pv 1) (pa_cons (pv 2) pa_nil)))))) pss_nil)
      (pss_cons (ps_set (i := 5) nd rfl (by first | exact Or.inl rfl | exact Or.inr rfl) (pe_slice (sl_u (K := K)) (pv 0) (po_some pe_int) po_none))
      (pss_cons (ps_if (pt_cmpR (op_ueq (K := K) hu) (pe_ix (ix_u (K := K) hu) (pv 0) pe_int (fun _ _ => rfl)) pe_str (nomark _))
      (pss_cons (ps_if (PW.pt (pw_or (pt_cmpR (op_une (K := K) hu) (pe_callB (call_ulen (K := K)) (by rfl) T.n_len (by decide +kernel) (pa_cons (pv 0) pa_nil)) pe_int (nomark _)) (pw_or1 (pt_not (pt_u (K := K) (pe_own O_is_one_of (by omega) hr rfl (fun σ => L2N.passAt TK σ) (pa_cons (pe_ix (ix_u (K := K) hu) (pv 0) pe_int (fun _ _ => rfl)) (pa_cons (pv 2) pa_nil))))))))
      (pss_one (ps_ret pe_bl)) pss_nil)
      (pss_one (ps_set (i := 5) nd rfl (by first | exact Or.inl rfl | exact Or.inr rfl) (pe_slice (sl_u (K := K)) (pv 0) (po_some pe_int) po_none)))) pss_nil)
      (pss_cons (ps_if (PW.pt (pw_or (pt_cmpR op_isN (pv 4) pe_non (nomark _)) (pw_or1 (pt_cmpR (op_une (K := K) hu) (pe_callB (call_ulen (K := K)) (by rfl) T.n_len (by decide +kernel) (pa_cons (pv 5) pa_nil)) (pv 4) (nomark _)))))
      (pss_one (ps_ret pe_bl)) pss_nil)
      (pss_cons (ps_for (passes_of rfl) rfl (pi_u (K := K) (pv 5)) (pg_name (i := 6) nd rfl (by first | exact Or.inl rfl | exact Or.inr rfl))
      (pss_one (ps_if (pt_not (pt_u (K := K) (pe_own O_is_within (by omega) hr rfl (fun σ => L2N.passAt TK σ) (pa_cons (pv 6) (pa_cons (pv 1) (pa_cons (pv 2) (pa_cons (pe_op op_sub (pv 3) pe_int) pa_nil)))))))
      (pss_one (ps_ret pe_bl)) pss_nil)))
      (pss_one (ps_ret pe_bl))))))))), ?_⟩
    clear nd
    obtain ⟨v, t, F, b1, b2, bs, ls, m, rfl, hm, ht, h1, h2, q⟩ := h
    walk_at "vs"
    cases m with
    | zero =>
      refine v_iteD (fun _ => ?_) (fun h => absurd rfl h)
      walk_at "vs"
      exact q H .refl
    | succ k =>
    refine v_iteD (fun h => absurd h (by omega)) (fun _ => ?_)
    walk_at "vs"
    refine v_isi_th ht (by simp [sixT]) ?_
    by_cases htp : ∃ ts, t = .tup ts
    rotate_left
    · rw [isa_no fun ys h => htp ⟨ys, h⟩]
      walk_at "vs"
      have := q H .refl
      rw [withinT_no fun w r h => htp ⟨_, h⟩] at this
      exact this
    obtain ⟨ts, rfl⟩ := htp
    obtain ⟨a, xs, rfl, e, r⟩ := ht.tupI
    have hl := r.length
    show Tru K (.bl true) H _
    walk_at "vs"
    refine v_len_t (SqT.of e) ?_
    walk_at "vs"
    match ts, xs, r, hl with
    | [], [], _, _ =>
      refine v_iteD (fun _ => ?_) (fun h => absurd rfl h)
      walk_at "vs"
      have := q H .refl
      rw [withinT_no (fun w r h => by cases h)] at this
      exact this
    | t0 :: rest, x0 :: xr, .cons r0 rr, hl =>
    refine v_iteD (fun h => absurd h (by rw [List.length_cons]; omega)) (fun _ => ?_)
    walk_at "vs"
    refine v_ix_t (SqT.of e) (atI_0 _ _) ?_
    walk_at "vs"
    refine v_isi_th r0 (by simp [sixT]) ?_
    by_cases hs : ∃ w, t0 = .str w
    rotate_left
    · rw [show t0.isa "str" = false from by cases t0 with | str w => exact absurd ⟨w, rfl⟩ hs | _ => rfl]
      walk_at "vs"
      have := q H .refl
      rw [withinT_no (fun w r h => by cases h; exact hs ⟨_, rfl⟩)] at this
      exact this
    obtain ⟨w, rfl⟩ := hs
    show Tru K (.bl true) H _
    cases r0
    walk_at "vs"
    refine v_ix_t (SqT.of e) (atI_0 _ _) ?_
    walk_at "vs"
    refine ⟨w, rfl, fun H1 c1 => ?_⟩
    walk_at "vs"
    have e1 := c1.tup e
    rw [withinT] at q
    refine v_eq_sc (by unfold valsV; cases valsIn w <;> rfl) ?_
    by_cases hv0 : valsIn w = some 0
    · rw [show decide (valsV w = .int 0) = true from by rw [valsV, hv0]; rfl]
      rw [if_pos hv0] at q
      walk_at "vs"
      exact ⟨a, _, w, rest, F, b1, b2, bs, ls, rfl, e1, (TqA.cons (.str (by assumption)) (rr.on0 c1)), hv0, c1.at h1, c1.at h2, fun H2 c2 => q H2 (c1.trans c2)⟩
    rw [show decide (valsV w = .int 0) = false from decide_eq_false (by unfold valsV; cases hv : valsIn w with
      | none => intro h; cases h
      | some n => intro h; cases n with
        | zero => exact hv0 hv
        | succ n => cases h)]
    rw [if_neg hv0] at q
    walk_at "vs"
    refine v_sl_t e1 fun p1 H2 c2 g2 => ?_
    rw [cut_1, List.drop_one, List.tail_cons] at g2
    have k2 := c1.trans c2
    walk_at "vp"
    refine v_join (fun σ H6 => ∃ (p : Addr) (ys : List V) (us : List Th), σ = [some (.ref a), some (.ref b1), some (.ref b2), some (.int ((k + 1 : Nat) : Int)), some (valsV w), some (.ref p), none] ∧ Chg [] H H6 ∧ H6 p = some (.tup ys) ∧ TqA F H6 ys us ∧
      (∀ H', Chg [] H H' → Q (.bl (tailT (withinT bs ls k) w us)) H')) ?_ ?_
    rotate_left
    · intro U hU
      walk_at "vs"
      refine v_ix_t (SqT.of (c2.tup e1)) (atI_0 _ _) ?_
      walk_at "vs"
      refine v_iteD (fun hi => ?_) (fun hi => ?_)
      · subst hi
        unfold restT at q
        rw [item_one] at q
        simp only [if_true] at q
        walk_at "vs"
        refine v_len_t (SqT.of (c2.tup e1)) ?_
        walk_at "vs"
        have hxr : xr.length = rest.length := rr.length
        refine v_iteN (fun h3 => ?_) (fun h3 => ?_)
        · walk_at "vs"
          rw [List.length_cons, hxr] at h3
          have := q H2 k2
          match rest, h3 with
          | [], _ => exact this
          | [_], _ => exact this
          | [_, _], h3 => exact absurd rfl h3
          | _ :: _ :: _ :: _, _ => exact this
        rw [List.length_cons, hxr] at h3
        match rest, xr, rr, h3 with
        | [], _, _, h3 => simp at h3
        | [_], _, _, h3 => simp at h3
        | _ :: _ :: _ :: _, _, _, h3 => simp at h3; omega
        | [y, z], [x1, x2], .cons r1 (.cons r2 .nil), _ =>
        walk_at "vs"
        refine v_ix_t (SqT.of (c2.tup e1)) (atI_1 _ _ _) ?_
        walk_at "vs"
        refine ⟨x1, y, F, b2, ls, rfl, r1.on0 k2, k2.at h2, fun H3 c3 => ?_⟩
        walk_at "vs"
        have k3 := k2.trans c3
        refine v_iteNB (fun hb => ?_) (fun hb => ?_)
        · walk_at "vs"
          have := q H3 k3
          simp only [hb, Bool.false_and] at this
          exact this
        walk_at "vs"
        refine v_sl_t (k3.tup e) fun p2 H4 c4 g4 => ?_
        rw [cut_2] at g4
        walk_at "vs"
        refine hU _ _ ⟨p2, [x2], [z], rfl, k3.trans c4, g4, .one (r2.on0 (k3.trans c4)), fun H' c' => ?_⟩
        have := q H' c'
        simp only [hb, Bool.true_and] at this
        unfold tailT
        rw [item_one]
        simpa using this
      · rw [rest_tail hi] at q
        walk_at "vs"
        exact hU _ _ ⟨p1, xr, rest, rfl, k2, g2, rr.on0 k2, q⟩
    rintro σ H6 ⟨p, ys, us, rfl, k6, hp6, hu6, q6⟩
    have hul := hu6.length
    walk_at "vs"
    refine ⟨rfl, ?_⟩
    cases hv : valsIn w with
    | none =>
      rw [show decide (valsV w = .non) = true from by rw [valsV, hv]; rfl]
      walk_at "vs"
      have := q6 H6 k6
      unfold tailT at this
      rw [hv] at this
      exact this
    | some n2 =>
    rw [show decide (valsV w = .non) = false from by rw [valsV, hv]; rfl]
    replace q6 : ∀ H', Chg [] H H' → Q (.bl (decide (us.length = n2) && us.all (withinT bs ls k))) H' := fun H' c => by have := q6 H' c; unfold tailT at this; rw [hv] at this; exact this
    have hvv : valsV w = .int n2 := by rw [valsV, hv]
    rw [hvv]
    walk_at "vs"
    refine v_len_t (SqT.of hp6) ?_
    walk_at "vs"
    refine v_iteN (fun hne => ?_) (fun heq => ?_)
    · walk_at "vs"
      have := q6 H6 k6
      rw [decide_eq_false (by omega), Bool.false_and] at this
      exact this
    rw [decide_eq_true (by omega : us.length = n2), Bool.true_and] at q6
    walk_at "vs"
    refine v_it_t (SqT.of hp6) ?_
    refine v_for_tup (xs := ys) (fun i σ H' => (∃ v6, σ = [some (.ref a), some (.ref b1), some (.ref b2), some (.int ((k + 1 : Nat) : Int)), some (.int n2), some (.ref p), v6]) ∧ Chg [] H6 H' ∧ ∀ d ∈ us.take i, withinT bs ls k d = true)
      ⟨⟨_, rfl⟩, .refl, by simp⟩ (fun i σ H' _ ⟨_, c, _⟩ => SqT.of (c.tup hp6)) ?_ ?_
    · rintro i x σ H7 hi ⟨⟨v6, rfl⟩, c7, hp⟩
      obtain ⟨d, hd, rx⟩ := hu6.get hi
      have k7 := k6.trans c7
      walk_at "vs"
      refine ⟨x, d, F, b1, b2, bs, ls, k, by simp, by omega, rx.on0 c7, k7.at h1, k7.at h2, fun H8 c8 => ?_⟩
      walk_at "vs"
      refine v_iteNB (fun hb => ?_) (fun hb => ?_)
      · walk_at "vs"
        have := q6 H8 (k7.trans c8)
        rw [show us.all (withinT bs ls k) = false from by
          cases ha : us.all (withinT bs ls k) with
          | false => rfl
          | true => rw [List.all_eq_true.mp ha d (List.mem_of_getElem? hd)] at hb; cases hb] at this
        exact this
      · walk_at "vs"
        refine ⟨⟨_, rfl⟩, c7.trans c8, fun g hg => ?_⟩
        rw [take_snoc hd] at hg
        rcases List.mem_append.mp hg with h | h
        · exact hp g h
        · rw [List.mem_singleton] at h; subst h; exact hb
    · rintro σ H7 ⟨⟨v6, rfl⟩, c7, hp⟩
      rw [hul, List.take_length] at hp
      walk_at "vs"
      have := q6 H7 (k6.trans c7)
      rw [List.all_eq_true.mpr hp] at this
      exact this
theorem ok_is_within (T : Txt K mg) (D : DefAt K mg "is_within" s_is_within) (O_values_in : Own P w K mg base "values_in" 1 ["word"] (sp_valsin)) (O_is_plain : Own P w K mg base "is_plain" 2 ["thing", "boxes", "lists"] (sp_plain)) (O_is_one_of : Own P w K mg base "is_one_of" 1 ["thing", "names"] (sp_oneof)) : ∀ n : Nat, Own P w K mg base "is_within" (3 + n) ["thing", "boxes", "lists", "deep"] (sp_within n)
  | 0 => own_of (k := 3) D (fun _ _ _ _ _ _ us hl => match us, hl with | [_, _, _, _], _ => rfl) (fnW_of (N := ["thing", "boxes", "lists", "deep", "count", "parts", "part"]) sc_is_within (fun vs H Q E h => ((show ∀ vs H Q E, ¬ (sp_within 0 : Sp) vs H Q E from fun _ _ _ _ ⟨_, _, _, _, _, _, _, _, _, h, _⟩ => absurd h (Nat.not_lt_zero _)) vs H Q E h).elim) (fun f cdv A outer s H vs Q E hr h => ((show ∀ vs H Q E, ¬ (sp_within 0 : Sp) vs H Q E from fun _ _ _ _ ⟨_, _, _, _, _, _, _, _, _, h, _⟩ => absurd h (Nat.not_lt_zero _)) vs H Q E h).elim))
  | n + 1 => st_is_within T D O_values_in O_is_plain O_is_one_of n (ok_is_within T D O_values_in O_is_plain O_is_one_of n)
abbrev s_is_value : Stmt := topS 11
theorem sc_is_value : FnScope ["thing", "boxes", "lists"] ["thing", "boxes", "lists"] (defScope s_is_value) := ⟨rfl, rfl, rfl, by decide +kernel, rfl, by decide +kernel, by decide +kernel⟩
theorem ok_is_value (T : Txt K mg) (D : DefAt K mg "is_value" s_is_value) (O_is_within : Own P w K mg base "is_within" 8 ["thing", "boxes", "lists", "deep"] (sp_within 5)) : Own P w K mg base "is_value" 9 ["thing", "boxes", "lists"] (sp_value4) := by
  refine own_of D (fun _ _ _ _ _ _ us hl => match us, hl with | [_, _, _], _ => rfl) (fnW_of (N := ["thing", "boxes", "lists"]) sc_is_value (fun vs H Q E h => ?_) (fun f cdv A outer s H vs Q E hr h => ?_))
  · obtain ⟨v, t, F, b1, b2, bs, ls, rfl, _⟩ := h; rfl
  · have nd := sc_is_value.nd
    have hu := L2H.roomH_of hr
    have TK : L2N.Takes (cxOf (L2N.CX P w) P w K mg base ["thing", "boxes", "lists"] "is_value" (defScope s_is_value) f cdv A outer s H E) (fun cls d _ H => E cls d H) := L2N.takes_of rfl rfl rfl rfl
    refine ⟨_, (pss_one (ps_ret (pe_own O_is_within (by decide) hr rfl (fun σ => L2N.passAt TK σ) (pa_cons (pv 0) (pa_cons (pv 1) (pa_cons (pv 2) (pa_cons (pe_con_ T.c_DEEPEST rfl) pa_nil))))))), ?_⟩
    clear nd
    obtain ⟨v, t, F, b1, b2, bs, ls, rfl, ht, h1, h2, q⟩ := h
    walk_at "vs"
    exact ⟨v, t, F, b1, b2, bs, ls, 4, rfl, by omega, ht, h1, h2, q⟩
abbrev s__law_is_name : Stmt := topS 18
theorem sc__law_is_name : FnScope ["_law_thing_here", "_law_sign"] ["_law_thing_here"] (defScope s__law_is_name) := ⟨rfl, rfl, rfl, by decide +kernel, rfl, by decide +kernel, by decide +kernel⟩
theorem ok__law_is_name (T : Txt K mg) (D : DefAt K mg "_law_is_name" s__law_is_name) : Own P w K mg base "_law_is_name" 1 ["_law_thing_here"] (sp_isname) := by
  refine own_of D (fun _ _ _ _ _ _ us hl => match us, hl with | [_], _ => rfl) (fnW_of (N := ["_law_thing_here", "_law_sign"]) sc__law_is_name (fun vs H Q E h => ?_) (fun f cdv A outer s H vs Q E hr h => ?_))
  · obtain ⟨v, t, F, rfl, _⟩ := h; rfl
  · have nd := sc__law_is_name.nd
    have hu := L2H.roomH_of hr
    refine ⟨_, (pss_cons (ps_if (PW.pt (pw_or (pt_not (pt_u (K := K) (pe_callB (call_uisi (K := K)) (by rfl) T.n_isinstance (by decide +kernel) (pa_cons (pv 0) (pa_cons (pe_bltn (v := .ty "str") (by rfl) T.n_str (by decide +kernel) rfl) pa_nil))))) (pw_or1 (pt_not (pt_chain op_le op_le pe_int (pe_callB (call_ulen (K := K)) (by rfl) T.n_len (by decide +kernel) (pa_cons (pv 0) pa_nil)) pe_int)))))
      (pss_one (ps_ret pe_bl)) pss_nil)
      (pss_one (ps_ret (pe_cmpR (op_ueqL (K := K) hu) (pe_lc (own := [("_law_sign", 1)]) rfl nd (pi_u (K := K) (pv 0)) (blkOk_by (N := ["_law_thing_here", "_law_sign"]) (sc := defScope s__law_is_name) (by decide +kernel)) (fun _ _ _ _ _ => (pg_name (i := 1) nd rfl (by first | exact Or.inl rfl | exact Or.inr rfl))) (fun _ _ _ _ _ => (pts_one (pt_cmpR (op_unin (K := K) hu) (pv 1) pe_str rfl))) (fun _ _ _ _ _ => (pv 1))) (pe_lst pa_nil) (nomark _))))), ?_⟩
    clear nd
    obtain ⟨v, t, F, rfl, ht, q⟩ := h
    cases ht with
    | str hl =>
      rename_i z
      walk_at "vs"
      refine v_len_s (line9 (by omega)) ?_
      walk_at "vs"
      refine v_iteD (fun h1 => ?_) (fun h1 => ?_)
      · walk_at "vs"
        refine v_iteN (fun h2 => ?_) (fun h2 => ?_)
        · walk_at "vs"
          have := q H .refl
          rw [nameT, isNm_short (by omega)] at this
          exact this
        · walk_at "vs"
          refine v_it_s ?_
          refine v_lc_str [] (fun i acc H' => acc = (badS (z.cps.toList.take i)).map fun c => V.str ⟨#[c]⟩) (by simp) (fun H' c => rfl) ?_ ?_
          · rintro D i x acc H5 hi nD dS c5 hDl rfl
            have hz : z.cps.toList.length = z.length := by simp [Str.length]
            walk_at "vs"
            refine ⟨rfl, ?_⟩
            walk_at "vs"
            refine v_nin_sg ?_
            walk_at "vs"
            refine v_iteN (fun hn => ?_) (fun hm => ?_)
            · walk_at "vs"
              refine v_lcA c5 hDl nD dS .refl (line9' ?_) fun H7 c7 => ?_
              · have := List.length_filter_le (fun c => !decide (c ∈ abcS.cps.toList)) (z.cps.toList.take i)
                rw [List.length_take] at this
                rw [List.length_map]
                show (badS _).length ≤ 10000
                unfold badS; omega
              · rw [← snoc_take hi, badS_snoc, if_neg (show ¬ x ∈ abcS.cps.toList from hn), List.map_append]; rfl
            · refine v_lcN c5 hDl dS .refl ?_
              rw [← snoc_take hi, badS_snoc, if_pos (show x ∈ abcS.cps.toList from hm), List.append_nil]
          · rintro D acc H5 c5 nD hDl rfl
            rw [List.take_of_length_le (by simp [Str.length])] at hDl
            walk_at "vs"
            refine v_newL (line9 (by show 0 ≤ 10000; decide)) fun b H6 nb c6 hb => ?_
            refine v_eqL_nil (SqL.of (c6.at hDl)) (SqL.of hb) ?_
            have := q H6 (c5.trans c6)
            rw [nameT, ← badS_nm (by omega) (by omega)] at this
            rw [List.isEmpty_map]
            exact this
      · walk_at "vs"
        have := q H .refl
        rw [nameT, isNm_short (by omega)] at this
        exact this
    | tup e r => walk_at "vs"; refine v_isi_t_str e ?_; walk_at "vs"; exact q H .refl
    | lst f e r => walk_at "vs"; refine v_isi_l_str e ?_; walk_at "vs"; exact q H .refl
    | dic f e => walk_at "vs"; refine v_isi_d0 e (by simp [sixT]) (by decide) ?_; walk_at "vs"; exact q H .refl
    | non => walk_at "vs"; exact q H .refl
    | bl b => walk_at "vs"; exact q H .refl
    | int i => walk_at "vs"; exact q H .refl
abbrev s__law_is_number : Stmt := topS 19
theorem sc__law_is_number : FnScope ["_law_thing_here"] ["_law_thing_here"] (defScope s__law_is_number) := ⟨rfl, rfl, rfl, by decide +kernel, rfl, by decide +kernel, by decide +kernel⟩
theorem ok__law_is_number (T : Txt K mg) (D : DefAt K mg "_law_is_number" s__law_is_number) : Own P w K mg base "_law_is_number" 1 ["_law_thing_here"] (sp_isnum) := by
  refine own_of D (fun _ _ _ _ _ _ us hl => match us, hl with | [_], _ => rfl) (fnW_of (N := ["_law_thing_here"]) sc__law_is_number (fun vs H Q E h => ?_) (fun f cdv A outer s H vs Q E hr h => ?_))
  · obtain ⟨v, t, F, rfl, _⟩ := h; rfl
  · have nd := sc__law_is_number.nd
    have hu := L2H.roomH_of hr
    refine ⟨_, (pss_one (ps_ret (pe_and (pe_callB (call_uisi (K := K)) (by rfl) T.n_isinstance (by decide +kernel) (pa_cons (pv 0) (pa_cons (pe_bltn (v := .ty "int") (by rfl) T.n_int (by decide +kernel) rfl) pa_nil))) (pe_and (pe_notU (K := K) (pe_callB (call_uisi (K := K)) (by rfl) T.n_isinstance (by decide +kernel) (pa_cons (pv 0) (pa_cons (pe_bltn (v := .ty "bool") (by rfl) T.n_bool (by decide +kernel) rfl) pa_nil)))) (pe_one (pe_chain op_le op_ult pe_int (pv 0) pe_int)))))), ?_⟩
    clear nd
    obtain ⟨v, t, F, rfl, ht, q⟩ := h
    cases ht with
    | str hl => walk_at "vs"; exact q H .refl
    | tup e r => walk_at "vs"; refine v_isi_t_int e ?_; walk_at "vs"; exact q H .refl
    | lst f e r => walk_at "vs"; refine v_isi_l_int e ?_; walk_at "vs"; exact q H .refl
    | dic f e => walk_at "vs"; refine v_isi_d0 e (by simp [sixT]) (by decide) ?_; walk_at "vs"; exact q H .refl
    | non => walk_at "vs"; exact q H .refl
    | bl b => walk_at "vs"; exact q H .refl
    | int i =>
      have := q H .refl
      walk_at "vs"
      refine v_iteD (fun h1 => ?_) (fun h1 => ?_)
      · walk_at "vs"
        rw [numT, decide_eq_true h1, Bool.true_and] at this
        exact this
      · rw [numT, decide_eq_false h1] at this
        exact this
abbrev s__law_among : Stmt := topS 20
theorem sc__law_among : FnScope ["_law_thing_here", "_law_names_here"] ["_law_thing_here", "_law_names_here"] (defScope s__law_among) := ⟨rfl, rfl, rfl, by decide +kernel, rfl, by decide +kernel, by decide +kernel⟩
theorem ok__law_among (T : Txt K mg) (D : DefAt K mg "_law_among" s__law_among) : Own P w K mg base "_law_among" 1 ["_law_thing_here", "_law_names_here"] (sp_oneof) := by
  refine own_of D (fun _ _ _ _ _ _ us hl => match us, hl with | [_, _], _ => rfl) (fnW_of (N := ["_law_thing_here", "_law_names_here"]) sc__law_among (fun vs H Q E h => ?_) (fun f cdv A outer s H vs Q E hr h => ?_))
  · obtain ⟨v, t, F, b, zs, rfl, _⟩ := h; rfl
  · have nd := sc__law_among.nd
    have hu := L2H.roomH_of hr
    refine ⟨_, (pss_one (ps_ret (pe_and (pe_callB (call_uisi (K := K)) (by rfl) T.n_isinstance (by decide +kernel) (pa_cons (pv 0) (pa_cons (pe_bltn (v := .ty "str") (by rfl) T.n_str (by decide +kernel) rfl) pa_nil))) (pe_one (pe_cmpR (op_uin (K := K) hu) (pv 0) (pv 1) rfl))))), ?_⟩
    clear nd
    obtain ⟨v, t, F, b, zs, rfl, ht, hb, q⟩ := h
    walk_at "vs"
    refine v_isi_th ht (by simp [sixT]) ?_
    cases ht with
    | str hl =>
      walk_at "vs"
      refine v_iteT ?_
      walk_at "vs"
      refine v_in_l (SqL.of hb) rfl (RT.flat_strs zs) ?_
      rw [inV_strs]
      exact q H .refl
    | tup e r => walk_at "vs"; refine v_iteF ?_; exact q H .refl
    | lst f e r => walk_at "vs"; refine v_iteF ?_; exact q H .refl
    | dic f e => walk_at "vs"; refine v_iteF ?_; exact q H .refl
    | non => walk_at "vs"; refine v_iteF ?_; exact q H .refl
    | bl b => walk_at "vs"; refine v_iteF ?_; exact q H .refl
    | int i => walk_at "vs"; refine v_iteF ?_; exact q H .refl
abbrev s__law_is_value : Stmt := topS 21
theorem sc__law_is_value : FnScope ["_law_thing_here", "_law_boxes", "_law_lists", "_law_deep"] ["_law_thing_here", "_law_boxes", "_law_lists", "_law_deep"] (defScope s__law_is_value) := ⟨rfl, rfl, rfl, by decide +kernel, rfl, by decide +kernel, by decide +kernel⟩
theorem st__law_is_value (T : Txt K mg) (D : DefAt K mg "_law_is_value" s__law_is_value) (O__law_is_number : Own P w K mg base "_law_is_number" 1 ["_law_thing_here"] (sp_isnum)) (O__law_among : Own P w K mg base "_law_among" 1 ["_law_thing_here", "_law_names_here"] (sp_oneof)) (n : Nat) (O__law_is_value : Own P w K mg base "_law_is_value" (2 + n) ["_law_thing_here", "_law_boxes", "_law_lists", "_law_deep"] (sp_within n)) : Own P w K mg base "_law_is_value" (2 + n + 1) ["_law_thing_here", "_law_boxes", "_law_lists", "_law_deep"] (sp_within (n + 1)) := by
  refine own_of D (fun _ _ _ _ _ _ us hl => match us, hl with | [_, _, _, _], _ => rfl) (fnW_of (k := 2 + n) (N := ["_law_thing_here", "_law_boxes", "_law_lists", "_law_deep"]) sc__law_is_value (fun vs H Q E h => ?_) (fun f cdv A outer s H vs Q E hr h => ?_))
  · obtain ⟨v, t, F, b1, b2, bs, ls, n, rfl, _⟩ := h; rfl
  · have nd := sc__law_is_value.nd
    have hu := L2H.roomH_of hr
    have TK : L2N.Takes (cxOf (L2N.CX P w) P w K mg base ["_law_thing_here", "_law_boxes", "_law_lists", "_law_deep"] "_law_is_value" (defScope s__law_is_value) f cdv A outer s H E) (fun cls d _ H => E cls d H) := L2N.takes_of rfl rfl rfl rfl
    refine ⟨_, (pss_cons (ps_if (PW.pt (pw_or (pt_cmpR (op_ueq (K := K) hu) (pv 3) pe_int (nomark _)) (pw_or (pt_not (pt_u (K := K) (pe_callB (call_uisi (K := K)) (by rfl) T.n_isinstance (by decide +kernel) (pa_cons (pv 0) (pa_cons (pe_bltn (v := .ty "tuple") (by rfl) T.n_tuple (by decide +kernel) rfl) pa_nil))))) (pw_or (pt_cmpR op_ult (pe_callB (call_ulen (K := K)) (by rfl) T.n_len (by decide +kernel) (pa_cons (pv 0) pa_nil)) pe_int (nomark _)) (pw_or1 (pt_not (pt_u (K := K) (pe_callB (call_uisi (K := K)) (by rfl) T.n_isinstance (by decide +kernel) (pa_cons (pe_ix (ix_u (K := K) hu) (pv 0) pe_int (fun _ _ => rfl)) (pa_cons (pe_bltn (v := .ty "str") (by rfl) T.n_str (by decide +kernel) rfl) pa_nil))))))))))
      (pss_one (ps_ret pe_bl)) pss_nil)
      (pss_cons (ps_if (pt_cmpR (op_uin (K := K) hu) (pe_ix (ix_u (K := K) hu) (pv 0) pe_int (fun _ _ => rfl)) (pe_lst (pa_cons pe_str (pa_cons pe_str (pa_cons pe_str pa_nil)))) rfl)
      (pss_cons (ps_if (pt_cmpR (op_ueq (K := K) hu) (pe_ix (ix_u (K := K) hu) (pv 0) pe_int (fun _ _ => rfl)) pe_str (nomark _))
      (pss_one (ps_ret (pe_and (pe_cmpR (op_ueq (K := K) hu) (pe_callB (call_ulen (K := K)) (by rfl) T.n_len (by decide +kernel) (pa_cons (pv 0) pa_nil)) pe_int (nomark _)) (pe_one (pe_own O__law_is_number (by omega) hr rfl (fun σ => L2N.passAt TK σ) (pa_cons (pe_ix (ix_u (K := K) hu) (pv 0) pe_int (fun _ _ => rfl)) pa_nil)))))) pss_nil)
      (pss_one (ps_ret (pe_and (pe_cmpR (op_ueq (K := K) hu) (pe_callB (call_ulen (K := K)) (by rfl) T.n_len (by decide +kernel) (pa_cons (pv 0) pa_nil)) pe_int (nomark _)) (pe_one (pe_own O__law_among (by omega) hr rfl (fun σ => L2N.passAt TK σ) (pa_cons (pe_ix (ix_u (K := K) hu) (pv 0) pe_int (fun _ _ => rfl)) (pa_cons (pe_ix (ix_u (K := K) hu) (pe_lst (pa_cons (pv 1) (pa_cons (pv 2) pa_nil))) (pe_callTy call_uint1 (by rfl) T.n_int (by decide +kernel) (pa_cons (pe_cmpR (op_ueq (K := K) hu) (pe_ix (ix_u (K := K) hu) (pv 0) pe_int (fun _ _ => rfl)) pe_str (nomark _)) pa_nil)) (fun _ _ => rfl)) pa_nil)))))))) pss_nil)
      (pss_cons (ps_if (pt_cmpR (op_ueq (K := K) hu) (pe_ix (ix_u (K := K) hu) (pv 0) pe_int (fun _ _ => rfl)) pe_str (nomark _))
      (pss_one (ps_ret (pe_and (pe_cmpR (op_ueq (K := K) hu) (pe_callB (call_ulen (K := K)) (by rfl) T.n_len (by decide +kernel) (pa_cons (pv 0) pa_nil)) pe_int (nomark _)) (pe_and (pe_own O__law_among (by omega) hr rfl (fun σ => L2N.passAt TK σ) (pa_cons (pe_ix (ix_u (K := K) hu) (pv 0) pe_int (fun _ _ => rfl)) (pa_cons (pv 2) pa_nil))) (pe_one (pe_own O__law_is_value (by omega) hr rfl (fun σ => L2N.passAt TK σ) (pa_cons (pe_ix (ix_u (K := K) hu) (pv 0) pe_int (fun _ _ => rfl)) (pa_cons (pv 1) (pa_cons (pv 2) (pa_cons (pe_op op_sub (pv 3) pe_int) pa_nil)))))))))) pss_nil)
      (pss_cons (ps_if (pt_cmpR (op_ueq (K := K) hu) (pe_ix (ix_u (K := K) hu) (pv 0) pe_int (fun _ _ => rfl)) pe_str (nomark _))
      (pss_one (ps_ret (pe_and (pe_cmpR (op_ueq (K := K) hu) (pe_callB (call_ulen (K := K)) (by rfl) T.n_len (by decide +kernel) (pa_cons (pv 0) pa_nil)) pe_int (nomark _)) (pe_one (pe_own O__law_is_value (by omega) hr rfl (fun σ => L2N.passAt TK σ) (pa_cons (pe_ix (ix_u (K := K) hu) (pv 0) pe_int (fun _ _ => rfl)) (pa_cons (pv 1) (pa_cons (pv 2) (pa_cons (pe_op op_sub (pv 3) pe_int) pa_nil))))))))) pss_nil)
      (pss_cons (ps_if (PW.pt (pw_or (pt_cmpR (op_unin (K := K) hu) (pe_ix (ix_u (K := K) hu) (pv 0) pe_int (fun _ _ => rfl)) (pe_lst (pa_cons pe_str (pa_cons pe_str (pa_cons pe_str (pa_cons pe_str (pa_cons pe_str (pa_cons pe_str (pa_cons pe_str pa_nil)))))))) rfl) (pw_or1 (pt_cmpR (op_une (K := K) hu) (pe_callB (call_ulen (K := K)) (by rfl) T.n_len (by decide +kernel) (pa_cons (pv 0) pa_nil)) pe_int (nomark _)))))
      (pss_one (ps_ret pe_bl)) pss_nil)
      (pss_one (ps_ret (pe_and (pe_own O__law_is_value (by omega) hr rfl (fun σ => L2N.passAt TK σ) (pa_cons (pe_ix (ix_u (K := K) hu) (pv 0) pe_int (fun _ _ => rfl)) (pa_cons (pv 1) (pa_cons (pv 2) (pa_cons (pe_op op_sub (pv 3) pe_int) pa_nil))))) (pe_one (pe_own O__law_is_value (by omega) hr rfl (fun σ => L2N.passAt TK σ) (pa_cons (pe_ix (ix_u (K := K) hu) (pv 0) pe_int (fun _ _ => rfl)) (pa_cons (pv 1) (pa_cons (pv 2) (pa_cons (pe_op op_sub (pv 3) pe_int) pa_nil)))))))))))))), ?_⟩
    clear nd
    obtain ⟨v, t, F, b1, b2, bs, ls, m, rfl, hm, ht, hb, hli, q⟩ := h
    walk_at "vs"
    cases m with
    | zero =>
      refine v_iteD (fun _ => ?_) (fun h => absurd rfl h)
      walk_at "vs"
      exact q H .refl
    | succ k =>
    refine v_iteD (fun h => absurd h (by omega)) (fun _ => ?_)
    walk_at "vs"
    refine v_isi_th ht (by simp [sixT]) ?_
    by_cases htp : ∃ ts, t = .tup ts
    rotate_left
    · rw [isa_no fun ys h => htp ⟨ys, h⟩]
      walk_at "vs"
      have := q H .refl
      rw [withinT_no fun w r h => htp ⟨_, h⟩] at this
      exact this
    obtain ⟨ts, rfl⟩ := htp
    obtain ⟨a, xs, rfl, e, r⟩ := ht.tupI
    have hl := r.length
    show Tru K (.bl true) H _
    walk_at "vs"
    refine v_len_t (SqT.of e) ?_
    walk_at "vs"
    refine v_iteD (fun h2 => ?_) (fun h2 => ?_)
    · walk_at "vs"
      have := q H .refl
      match ts, hl with
      | [], _ => rw [withinT_no (fun w r h => by cases h)] at this; exact this
      | [t0], _ =>
        cases t0 with
        | str w =>
          rw [withinT] at this
          rw [show (if valsIn w = some 0 then plainT bs ls w [] else restT ls (withinT bs ls k) w []) = false from by
            split
            · rfl
            · unfold restT
              cases hv : valsIn w with
              | none => rfl
              | some n =>
                simp only
                split
                · rfl
                · rename_i h0 _
                  cases n with
                  | zero => exact absurd hv h0
                  | succ n => rfl] at this
          exact this
        | _ => rw [withinT_no (fun w r h => by cases h)] at this; exact this
      | _ :: _ :: _, hl => simp at hl; omega
    match ts, xs, r, hl with
    | [], _, _, hl => rw [List.length_nil] at hl; omega
    | [_], _, _, hl => simp at hl; omega
    | t0 :: t1 :: rest, x0 :: x1 :: xr, .cons r0 (.cons r1 rr), hl =>
    walk_at "vs"
    refine v_ix_t (SqT.of e) (atI_0 _ _) ?_
    walk_at "vs"
    refine v_isi_th r0 (by simp [sixT]) ?_
    by_cases hs : ∃ w, t0 = .str w
    rotate_left
    · rw [show t0.isa "str" = false from by cases t0 with | str w => exact absurd ⟨w, rfl⟩ hs | _ => rfl]
      walk_at "vs"
      have := q H .refl
      rw [withinT_no (fun w r h => by cases h; exact hs ⟨_, rfl⟩)] at this
      exact this
    obtain ⟨w, rfl⟩ := hs
    show Tru K (.bl true) H _
    cases r0
    walk_at "vs"
    rw [withinT] at q
    refine v_ix_t (SqT.of e) (atI_0 _ _) ?_
    walk_at "vs"
    refine v_newL (line9 (by show 3 ≤ 10000; decide)) fun l1 H1 n1 c1 g1 => ?_
    refine v_in_l (SqL.of g1) rfl rfl ?_
    rw [show [V.str (Str.ofString "number"), V.str (Str.ofString "box"), V.str (Str.ofString "size")] = wPlain.map V.str from rfl, inV_strs]
    walk_at "vs"
    have e1 := c1.tup e
    have rl : rest.length = xr.length := rr.length.symm
    refine v_iteD (fun hm1 => ?_) (fun hm1 => ?_)
    · have hv0 : valsIn w = some 0 := by unfold valsIn; rw [if_pos hm1]
      rw [if_pos hv0] at q
      walk_at "vs"
      refine v_ix_t (SqT.of e1) (atI_0 _ _) ?_
      walk_at "vs"
      refine v_iteD (fun hn => ?_) (fun hn => ?_)
      · walk_at "vs"
        refine v_len_t (SqT.of e1) ?_
        walk_at "vs"
        rw [List.length_cons, List.length_cons, ← rl]
        refine v_iteD (fun h3 => ?_) (fun h3 => ?_)
        · match rest, rl, rr with
          | [], _, _ =>
            walk_at "vs"
            refine v_ix_t (SqT.of e1) (atI_1 _ _ _) ?_
            walk_at "vs"
            refine ⟨x1, t1, F, rfl, r1.on0 c1, fun H2 c2 => ?_⟩
            have := q H2 (c1.trans c2)
            rw [plainT, if_pos hn] at this
            exact this
          | _ :: _, _, _ => simp at h3; omega
        · have := q H1 c1
          rw [plainT_len (by rw [List.length_cons]; omega)] at this
          exact this
      · walk_at "vs"
        refine v_len_t (SqT.of e1) ?_
        walk_at "vs"
        rw [List.length_cons, List.length_cons, ← rl]
        refine v_iteD (fun h3 => ?_) (fun h3 => ?_)
        · match rest, rl, rr with
          | _ :: _, _, _ => simp at h3; omega
          | [], _, _ =>
          walk_at "vs"
          refine v_ix_t (SqT.of e1) (atI_1 _ _ _) ?_
          walk_at "vs"
          refine v_newL (line9 (by show 2 ≤ 10000; decide)) fun l2 H2 n2 c2 g2 => ?_
          walk_at "vs"
          refine v_ix_t (SqT.of (c2.tup e1)) (atI_0 _ _) ?_
          walk_at "vs"
          have k2 := c1.trans c2
          rcases plain_cases hm1 hn with rfl | rfl
          · rw [show decide (Str.ofString "box" = Str.ofString "size") = false from by decide]
            walk_at "vs"
            refine v_ix_l (v := .ref b1) (SqL.of g2) rfl ?_
            walk_at "vs"
            refine ⟨x1, t1, F, b1, bs, rfl, r1.on0 k2, k2.at hb, fun H3 c3 => ?_⟩
            have := q H3 (k2.trans c3)
            rw [plainT, if_neg (by decide), if_pos rfl] at this
            exact this
          · rw [show decide (Str.ofString "size" = Str.ofString "size") = true from by decide]
            walk_at "vs"
            refine v_ix_l (v := .ref b2) (SqL.of g2) rfl ?_
            walk_at "vs"
            refine ⟨x1, t1, F, b2, ls, rfl, r1.on0 k2, k2.at hli, fun H3 c3 => ?_⟩
            have := q H3 (k2.trans c3)
            rw [plainT, if_neg (by decide), if_neg (by decide)] at this
            exact this
        · walk_at "vs"
          have := q H1 c1
          rw [plainT_len (by rw [List.length_cons]; omega)] at this
          exact this
    rw [if_neg (fun h => hm1 (by
      unfold valsIn at h
      by_cases hh : w ∈ wPlain
      · exact hh
      · rw [if_neg hh] at h
        split at h
        · cases h
        · split at h <;> cases h))] at q
    walk_at "vs"
    refine v_ix_t (SqT.of e1) (atI_0 _ _) ?_
    walk_at "vs"
    refine v_iteD (fun hi => ?_) (fun hi => ?_)
    · subst hi
      walk_at "vs"
      refine v_len_t (SqT.of e1) ?_
      walk_at "vs"
      rw [List.length_cons, List.length_cons, ← rl]
      refine v_iteD (fun h3 => ?_) (fun h3 => ?_)
      · match rest, xr, rr, h3 with
        | [], _, _, h3 => simp at h3
        | _ :: _ :: _, _, _, h3 => simp at h3; omega
        | [t2], [x2], .cons r2 .nil, _ =>
        rw [restT_item2] at q
        walk_at "vs"
        refine v_ix_t (SqT.of e1) (atI_1 _ _ _) ?_
        walk_at "vs"
        refine ⟨x1, t1, F, b2, ls, rfl, r1.on0 c1, c1.at hli, fun H2 c2 => ?_⟩
        have k2 := c1.trans c2
        walk_at "vs"
        cases ho : oneT ls t1 with
        | false =>
          rw [ho, Bool.false_and] at q
          refine v_iteF ?_
          exact q H2 k2
        | true =>
          rw [ho, Bool.true_and] at q
          refine v_iteT ?_
          walk_at "vs"
          refine v_ix_t (v := x2) (SqT.of (k2.tup e)) rfl ?_
          walk_at "vs"
          refine ⟨x2, t2, F, b1, b2, bs, ls, k, by simp, by omega, r2.on0 k2, k2.at hb, k2.at hli, fun H3 c3 => q H3 (k2.trans c3)⟩
      · walk_at "vs"
        have := q H1 c1
        rw [restT_item (by rw [List.length_cons]; omega)] at this
        exact this
    walk_at "vs"
    refine v_ix_t (SqT.of e1) (atI_0 _ _) ?_
    walk_at "vs"
    refine v_iteD (fun hn => ?_) (fun hn => ?_)
    · subst hn
      rw [restT_not] at q
      walk_at "vs"
      refine v_len_t (SqT.of e1) ?_
      walk_at "vs"
      rw [List.length_cons, List.length_cons, ← rl]
      refine v_iteD (fun h3 => ?_) (fun h3 => ?_)
      · match rest, xr, rr, h3 with
        | _ :: _, _, _, h3 => simp at h3; omega
        | [], [], .nil, _ =>
        walk_at "vs"
        refine v_ix_t (SqT.of e1) (atI_1 _ _ _) ?_
        walk_at "vs"
        refine ⟨x1, t1, F, b1, b2, bs, ls, k, by simp, by omega, r1.on0 c1, c1.at hb, c1.at hli, fun H2 c2 => ?_⟩
        have := q H2 (c1.trans c2)
        simp only [List.length_singleton, List.all_cons, List.all_nil, Bool.and_true, decide_true, Bool.true_and] at this
        exact this
      · walk_at "vs"
        have := q H1 c1
        rw [decide_eq_false (by rw [List.length_cons]; omega), Bool.false_and] at this
        exact this
    rw [restT_two hm1 hi hn] at q
    walk_at "vs"
    refine v_ix_t (SqT.of e1) (atI_0 _ _) ?_
    walk_at "vs"
    refine v_newL (line9 (by show 7 ≤ 10000; decide)) fun l2 H2 n2 c2 g2 => ?_
    have k2 := c1.trans c2
    refine v_nin_l (SqL.of g2) rfl rfl ?_
    rw [show [V.str (Str.ofString "plus"), V.str (Str.ofString "minus"), V.str (Str.ofString "times"), V.str (Str.ofString "over"), V.str (Str.ofString "rest"), V.str (Str.ofString "less"), V.str (Str.ofString "same")] = wTwo.map V.str from rfl, inV_strs]
    walk_at "vs"
    refine v_iteN (fun h2 => ?_) (fun h2 => ?_)
    · walk_at "vs"
      have := q H2 k2
      rw [decide_eq_false h2, Bool.false_and] at this
      exact this
    rw [decide_eq_true h2, Bool.true_and] at q
    walk_at "vs"
    refine v_len_t (SqT.of (k2.tup e)) ?_
    walk_at "vs"
    rw [List.length_cons, List.length_cons, ← rl]
    refine v_iteN (fun h3 => ?_) (fun h3 => ?_)
    · walk_at "vs"
      have := q H2 k2
      rw [decide_eq_false (by rw [List.length_cons]; omega), Bool.false_and] at this
      exact this
    match rest, xr, rr, h3 with
    | [], _, _, h3 => simp at h3
    | _ :: _ :: _, _, _, h3 => simp at h3; omega
    | [t2], [x2], .cons r2 .nil, _ =>
    simp only [List.length_cons, List.length_nil, List.all_cons, List.all_nil, Bool.and_true, decide_true, Bool.true_and] at q
    walk_at "vs"
    refine v_ix_t (SqT.of (k2.tup e)) (atI_1 _ _ _) ?_
    walk_at "vs"
    refine ⟨x1, t1, F, b1, b2, bs, ls, k, by simp, by omega, r1.on0 k2, k2.at hb, k2.at hli, fun H3 c3 => ?_⟩
    have k3 := k2.trans c3
    walk_at "vs"
    cases ho : withinT bs ls k t1 with
    | false =>
      rw [ho, Bool.false_and] at q
      refine v_iteF ?_
      exact q H3 k3
    | true =>
      rw [ho, Bool.true_and] at q
      refine v_iteT ?_
      walk_at "vs"
      refine v_ix_t (v := x2) (SqT.of (k3.tup e)) rfl ?_
      walk_at "vs"
      exact ⟨x2, t2, F, b1, b2, bs, ls, k, by simp, by omega, r2.on0 k3, k3.at hb, k3.at hli, fun H4 c4 => q H4 (k3.trans c4)⟩
theorem ok__law_is_value (T : Txt K mg) (D : DefAt K mg "_law_is_value" s__law_is_value) (O__law_is_number : Own P w K mg base "_law_is_number" 1 ["_law_thing_here"] (sp_isnum)) (O__law_among : Own P w K mg base "_law_among" 1 ["_law_thing_here", "_law_names_here"] (sp_oneof)) : ∀ n : Nat, Own P w K mg base "_law_is_value" (2 + n) ["_law_thing_here", "_law_boxes", "_law_lists", "_law_deep"] (sp_within n)
  | 0 => own_of (k := 2) D (fun _ _ _ _ _ _ us hl => match us, hl with | [_, _, _, _], _ => rfl) (fnW_of (N := ["_law_thing_here", "_law_boxes", "_law_lists", "_law_deep"]) sc__law_is_value (fun vs H Q E h => ((show ∀ vs H Q E, ¬ (sp_within 0 : Sp) vs H Q E from fun _ _ _ _ ⟨_, _, _, _, _, _, _, _, _, h, _⟩ => absurd h (Nat.not_lt_zero _)) vs H Q E h).elim) (fun f cdv A outer s H vs Q E hr h => ((show ∀ vs H Q E, ¬ (sp_within 0 : Sp) vs H Q E from fun _ _ _ _ ⟨_, _, _, _, _, _, _, _, _, h, _⟩ => absurd h (Nat.not_lt_zero _)) vs H Q E h).elim))
  | n + 1 => st__law_is_value T D O__law_is_number O__law_among n (ok__law_is_value T D O__law_is_number O__law_among n)

abbrev s__law_value : Stmt := topS 17
theorem sc__law_value : FnScope ["_law_state_here", "_law_deep", "_law_boxes", "_law_lists", "_law_kind", "_law_one", "_law_words", "_law_word"] ["_law_state_here", "_law_deep", "_law_boxes", "_law_lists"] (defScope s__law_value) := ⟨rfl, rfl, rfl, by decide +kernel, rfl, by decide +kernel, by decide +kernel⟩
theorem st__law_value (T : Txt K mg) (D : DefAt K mg "_law_value" s__law_value) (O__law_next : Own P w K mg base "_law_next" 1 ["_law_state_here", "_law_size"] (sp_next)) (n : Nat) (O__law_value : Own P w K mg base "_law_value" (2 + n) ["_law_state_here", "_law_deep", "_law_boxes", "_law_lists"] (sp_value n)) : Own P w K mg base "_law_value" (2 + n + 1) ["_law_state_here", "_law_deep", "_law_boxes", "_law_lists"] (sp_value (n + 1)) := by
  refine own_of D (fun _ _ _ _ _ _ us hl => match us, hl with | [_, _, _, _], _ => rfl) (fnW_of (k := 2 + n) (N := ["_law_state_here", "_law_deep", "_law_boxes", "_law_lists", "_law_kind", "_law_one", "_law_words", "_law_word"]) sc__law_value (fun vs H Q E h => ?_) (fun f cdv A outer s H vs Q E hr h => ?_))
  · obtain ⟨st, dp, b, l, bs, ls, rfl, _⟩ := h; rfl
  · have nd := sc__law_value.nd
    have hu := L2H.roomH_of hr
    have TK : L2N.Takes (cxOf (L2N.CX P w) P w K mg base ["_law_state_here", "_law_deep", "_law_boxes", "_law_lists", "_law_kind", "_law_one", "_law_words", "_law_word"] "_law_value" (defScope s__law_value) f cdv A outer s H E) (fun cls d _ H => E cls d H) := L2N.takes_of rfl rfl rfl rfl
    refine ⟨_, (pss_cons (ps_set (i := 4) nd rfl (by first | exact Or.inl rfl | exact Or.inr rfl) (pe_own O__law_next (by omega) hr rfl (fun σ => L2N.passAt TK σ) (pa_cons (pv 0) (pa_cons pe_int pa_nil))))
      (pss_cons (ps_if (PW.pt (pw_or (pt_cmpR op_ult (pv 1) pe_int (nomark _)) (pw_or1 (pt_cmpR op_ult (pv 4) pe_int (nomark _)))))
      (pss_cons (ps_if (PW.pt (pw_and (pt_cmpR op_gt (pe_callB (call_ulen (K := K)) (by rfl) T.n_len (by decide +kernel) (pa_cons (pv 2) pa_nil)) pe_int (nomark _)) (pw_and1 (pt_cmpR op_gt (pe_own O__law_next (by omega) hr rfl (fun σ => L2N.passAt TK σ) (pa_cons (pv 0) (pa_cons pe_int pa_nil))) pe_int (nomark _)))))
      (pss_one (ps_ret (pe_tup (pa_cons pe_str (pa_cons (pe_ix (ix_u (K := K) hu) (pv 2) (pe_own O__law_next (by omega) hr rfl (fun σ => L2N.passAt TK σ) (pa_cons (pv 0) (pa_cons (pe_callB (call_ulen (K := K)) (by rfl) T.n_len (by decide +kernel) (pa_cons (pv 2) pa_nil)) pa_nil))) (fun _ _ => rfl)) pa_nil))))) pss_nil)
      (pss_cons (ps_if (PW.pt (pw_and (pt_cmpR op_gt (pe_callB (call_ulen (K := K)) (by rfl) T.n_len (by decide +kernel) (pa_cons (pv 3) pa_nil)) pe_int (nomark _)) (pw_and1 (pt_cmpR (op_ueq (K := K) hu) (pe_own O__law_next (by omega) hr rfl (fun σ => L2N.passAt TK σ) (pa_cons (pv 0) (pa_cons pe_int pa_nil))) pe_int (nomark _)))))
      (pss_one (ps_ret (pe_tup (pa_cons pe_str (pa_cons (pe_ix (ix_u (K := K) hu) (pv 3) (pe_own O__law_next (by omega) hr rfl (fun σ => L2N.passAt TK σ) (pa_cons (pv 0) (pa_cons (pe_callB (call_ulen (K := K)) (by rfl) T.n_len (by decide +kernel) (pa_cons (pv 3) pa_nil)) pa_nil))) (fun _ _ => rfl)) pa_nil))))) pss_nil)
      (pss_one (ps_ret (pe_tup (pa_cons pe_str (pa_cons (pe_ix (ix_u (K := K) hu) (pe_lst (pa_cons (pe_own O__law_next (by omega) hr rfl (fun σ => L2N.passAt TK σ) (pa_cons (pv 0) (pa_cons pe_int pa_nil))) (pa_cons (pe_own O__law_next (by omega) hr rfl (fun σ => L2N.passAt TK σ) (pa_cons (pv 0) (pa_cons pe_int pa_nil))) pa_nil))) (pe_op op_fdiv (pe_own O__law_next (by omega) hr rfl (fun σ => L2N.passAt TK σ) (pa_cons (pv 0) (pa_cons pe_int pa_nil))) pe_int) (fun _ _ => rfl)) pa_nil))))))) pss_nil)
      (pss_cons (ps_set (i := 5) nd rfl (by first | exact Or.inl rfl | exact Or.inr rfl) (pe_own O__law_value (by omega) hr rfl (fun σ => L2N.passAt TK σ) (pa_cons (pv 0) (pa_cons (pe_op op_sub (pv 1) pe_int) (pa_cons (pv 2) (pa_cons (pv 3) pa_nil))))))
      (pss_cons (ps_if (pt_cmpR (op_ueq (K := K) hu) (pv 4) pe_int (nomark _))
      (pss_one (ps_ret (pe_tup (pa_cons pe_str (pa_cons (pv 5) pa_nil))))) pss_nil)
      (pss_cons (ps_if (PW.pt (pw_and (pt_cmpR (op_ueq (K := K) hu) (pv 4) pe_int (nomark _)) (pw_and1 (pt_cmpR op_gt (pe_callB (call_ulen (K := K)) (by rfl) T.n_len (by decide +kernel) (pa_cons (pv 3) pa_nil)) pe_int (nomark _)))))
      (pss_one (ps_ret (pe_tup (pa_cons pe_str (pa_cons (pe_ix (ix_u (K := K) hu) (pv 3) (pe_own O__law_next (by omega) hr rfl (fun σ => L2N.passAt TK σ) (pa_cons (pv 0) (pa_cons (pe_callB (call_ulen (K := K)) (by rfl) T.n_len (by decide +kernel) (pa_cons (pv 3) pa_nil)) pa_nil))) (fun _ _ => rfl)) (pa_cons (pv 5) pa_nil)))))) pss_nil)
      (pss_cons (ps_set (i := 6) nd rfl (by first | exact Or.inl rfl | exact Or.inr rfl) (pe_lst (pa_cons pe_str (pa_cons pe_str (pa_cons pe_str (pa_cons pe_str (pa_cons pe_str (pa_cons pe_str (pa_cons pe_str pa_nil)))))))))
      (pss_cons (ps_set (i := 7) nd rfl (by first | exact Or.inl rfl | exact Or.inr rfl) (pe_ix (ix_u (K := K) hu) (pv 6) (pe_ix (ix_u (K := K) hu) (pe_lst (pa_cons pe_int (pa_cons pe_int (pa_cons pe_int (pa_cons pe_int (pa_cons (pe_own O__law_next (by omega) hr rfl (fun σ => L2N.passAt TK σ) (pa_cons (pv 0) (pa_cons pe_int pa_nil))) pa_nil)))))) (pe_own O__law_next (by omega) hr rfl (fun σ => L2N.passAt TK σ) (pa_cons (pv 0) (pa_cons pe_int pa_nil))) (fun _ _ => rfl)) (fun _ _ => rfl)))
      (pss_one (ps_ret (pe_tup (pa_cons (pv 7) (pa_cons (pv 5) (pa_cons (pe_own O__law_value (by omega) hr rfl (fun σ => L2N.passAt TK σ) (pa_cons (pv 0) (pa_cons (pe_op op_sub (pv 1) pe_int) (pa_cons (pv 2) (pa_cons (pv 3) pa_nil))))) pa_nil))))))))))))), ?_⟩
    clear nd
    obtain ⟨st, dp, b, l, bs, ls, rfl, hst, d1, dn, hb, hl, lb, ll, nb, nl, q⟩ := h
    have bst := hst.ne_strs hb
    have lst := hst.ne_strs hl
    walk_at "vs"
    refine ⟨st, 10, rfl, hst, by omega, fun kd H1 kd0 kd1 c1 hst1 => ?_⟩
    walk_at "vp"
    refine v_ifJ (fun k H' => H' = H1 ∧ k = decide (dp < 2 ∨ kd < 4)) ?_ ?_ ?_
    · rintro H2 ⟨rfl, _⟩
      walk_at "vp"
      refine v_ifJ (fun k H' => Chg [st] H2 H' ∧ StAt H' st ∧ (k = true → 1 ≤ bs.length)) ?_ ?_ ?_
      · rintro H3 ⟨c3, hst3, hb0⟩
        have cc := c1.trans c3
        walk_at "vs"
        refine v_len_l (SqL.of (cc.keep hb (by simpa using bst))) ?_
        walk_at "vs"
        rw [List.length_map]
        refine ⟨st, bs.length, rfl, hst3, by have := hb0 rfl; omega, fun ix H4 i0 i1 c4 hst4 => ?_⟩
        have cc4 := cc.trans c4
        walk_at "vs"
        refine v_ix_strs (cc4.seqLS (SqL.of hb) (by simpa using fun _ _ => bst)) i0 i1 fun z hz => ?_
        walk_at "vs"
        refine v_newT (line9 (by show 2 ≤ 10000; decide)) fun t H5 nt c5 ht => ?_
        exact q _ (.box z) H5 (cc4.trans c5.of0) (hst4.on0 c5) (.tup ht (.cons (.str (wOk (by simp))) (.one (.str (isNm_ok (nb z hz)))))) hz d1
      · rintro H3 ⟨c3, hst3, _⟩
        have cc := c1.trans c3
        walk_at "vp"
        refine v_ifJ (fun k H' => Chg [st] H3 H' ∧ StAt H' st ∧ (k = true → 1 ≤ ls.length)) ?_ ?_ ?_
        · rintro H4 ⟨c4, hst4, hl0⟩
          have cc4 := cc.trans c4
          walk_at "vs"
          refine v_len_l (SqL.of (cc4.keep hl (by simpa using lst))) ?_
          walk_at "vs"
          rw [List.length_map]
          refine ⟨st, ls.length, rfl, hst4, by have := hl0 rfl; omega, fun ix H5 i0 i1 c5 hst5 => ?_⟩
          have cc5 := cc4.trans c5
          walk_at "vs"
          refine v_ix_strs (cc5.seqLS (SqL.of hl) (by simpa using fun _ _ => lst)) i0 i1 fun z hz => ?_
          walk_at "vs"
          refine v_newT (line9 (by show 2 ≤ 10000; decide)) fun t H6 nt c6 ht => ?_
          exact q _ (.size z) H6 (cc5.trans c6.of0) (hst5.on0 c6) (.tup ht (.cons (.str (wOk (by simp))) (.one (.str (isNm_ok (nl z hz)))))) hz d1
        · rintro H4 ⟨c4, hst4, _⟩
          have cc4 := cc.trans c4
          walk_at "vs"
          refine ⟨st, 4, rfl, hst4, by omega, fun a1 H5 a10 a11 c5 hst5 => ?_⟩
          walk_at "vs"
          refine ⟨st, 1000000, rfl, hst5, by omega, fun a2 H6 a20 a21 c6 hst6 => ?_⟩
          walk_at "vs"
          refine v_newL (line9 (by show 2 ≤ 10000; decide)) fun g H7 ng c7 hg => ?_
          walk_at "vs"
          refine ⟨st, 6, rfl, hst6.on0 c7, by omega, fun a3 H8 a30 a31 c8 hst8 => ?_⟩
          have ngst : g ≠ st := by rintro rfl; obtain ⟨z, e, _⟩ := hst6; rw [ng] at e; cases e
          walk_at "vs"
          refine v_ix_lany (SqL.of (c8.keep hg (by simpa using ngst))) (by omega) (by show a3 / 5 < 2; omega) fun v hv => ?_
          obtain ⟨m, rfl, m0, m1⟩ : ∃ m : Int, v = .int m ∧ 0 ≤ m ∧ m < 1000000 := by
            have := List.mem_of_getElem? hv
            simp only [List.mem_cons, List.not_mem_nil, or_false] at this
            rcases this with rfl | rfl
            all_goals exact ⟨_, rfl, by omega, by omega⟩
          walk_at "vs"
          refine v_newT (line9 (by show 2 ≤ 10000; decide)) fun t H9 nt c9 ht => ?_
          exact q _ (.num m) H9 ((((cc4.trans c5).trans c6).trans c7.of0).trans (c8.trans c9.of0)) (hst8.on0 c9) (.tup ht (.cons (.str (wOk (by simp))) (.one (.int m)))) ⟨m0, m1⟩ d1
        · intro Q' hQ'
          walk_at "vs"
          refine v_len_l (SqL.of (cc.keep hl (by simpa using lst))) ?_
          walk_at "vs"
          rw [List.length_map]
          refine v_iteD (fun h0 => ?_) (fun h0 => ?_)
          · walk_at "vs"
            refine ⟨st, 6, rfl, hst3, by omega, fun a1 H5 _ _ c5 hst5 => ?_⟩
            walk_at "vs"
            exact hQ' _ _ ⟨c5, hst5, fun _ => by omega⟩
          · walk_at "vs"
            exact hQ' _ _ ⟨.refl, hst3, fun z => by cases z⟩
      · intro Q' hQ'
        walk_at "vs"
        refine v_len_l (SqL.of (c1.keep hb (by simpa using bst))) ?_
        walk_at "vs"
        rw [List.length_map]
        refine v_iteD (fun h0 => ?_) (fun h0 => ?_)
        · walk_at "vs"
          refine ⟨st, 3, rfl, hst1, by omega, fun a1 H5 _ _ c5 hst5 => ?_⟩
          walk_at "vs"
          exact hQ' _ _ ⟨c5, hst5, fun _ => by omega⟩
        · walk_at "vs"
          exact hQ' _ _ ⟨.refl, hst1, fun z => by cases z⟩
    · rintro H2 ⟨rfl, hd⟩
      have hd2 : 2 ≤ dp := by
        have := of_decide_eq_false hd.symm
        omega
      have kB : ∀ {H'}, Chg [st] H H' → H' b = some (.lst (List.map V.str bs)) := fun c => c.keep hb (by simpa using bst)
      have kL : ∀ {H'}, Chg [st] H H' → H' l = some (.lst (List.map V.str ls)) := fun c => c.keep hl (by simpa using lst)
      walk_at "vs"
      refine ⟨st, dp - 1, b, l, bs, ls, rfl, hst1, by omega, by omega, kB c1, kL c1, lb, ll, nb, nl, fun v1 u1 H3 c3 hst3 r1 ok1 dp1 => ?_⟩
      have cc := c1.trans c3
      walk_at "vs"
      refine v_iteD (fun h4 => ?_) (fun h4 => ?_)
      · walk_at "vs"
        refine v_newT (line9 (by show 2 ≤ 10000; decide)) fun t H5 nt c5 ht => ?_
        exact q _ (.neg u1) H5 (cc.trans c5.of0) (hst3.on0 c5) (.tup ht (.cons (.str (wOk (by simp))) (.one (r1.on c5)))) ok1 (by simp only [Vl.dp]; omega)
      walk_at "vp"
      refine v_ifJ (fun k H' => H' = H3 ∧ (k = true → 1 ≤ ls.length)) ?_ ?_ ?_
      · rintro H4 ⟨rfl, hl0⟩
        walk_at "vs"
        refine v_len_l (SqL.of (kL cc)) ?_
        walk_at "vs"
        rw [List.length_map]
        refine ⟨st, ls.length, rfl, hst3, by have := hl0 rfl; omega, fun ix H5 i0 i1 c5 hst5 => ?_⟩
        have cc5 := cc.trans c5
        walk_at "vs"
        refine v_ix_strs (cc5.seqLS (SqL.of hl) (by simpa using fun _ _ => lst)) i0 i1 fun z hz => ?_
        walk_at "vs"
        refine v_newT (line9 (by show 3 ≤ 10000; decide)) fun t H6 nt c6 ht => ?_
        exact q _ (.item z u1) H6 (cc5.trans c6.of0) (hst5.on0 c6) (.tup ht (.cons (.str (wOk (by simp))) (.cons (.str (isNm_ok (nl z hz))) (.one ((r1.on c5).on c6))))) ⟨hz, ok1⟩ (by simp only [Vl.dp]; omega)
      · rintro H4 ⟨rfl, _⟩
        walk_at "vs"
        refine v_newL (line9 (by show 7 ≤ 10000; decide)) fun ww H5 nw c5 hw => ?_
        walk_at "vs"
        have hst5 := hst3.on0 c5
        have nwst : ww ≠ st := by rintro rfl; obtain ⟨z, e, _⟩ := hst3; rw [nw] at e; cases e
        refine ⟨st, 7, rfl, hst5, by omega, fun a1 H6 a10 a11 c6 hst6 => ?_⟩
        walk_at "vs"
        refine v_newL (line9 (by show 5 ≤ 10000; decide)) fun g H7 ng c7 hg => ?_
        walk_at "vs"
        have hst7 := hst6.on0 c7
        have ngst : g ≠ st := by rintro rfl; obtain ⟨z, e, _⟩ := hst6; rw [ng] at e; cases e
        refine ⟨st, 5, rfl, hst7, by omega, fun a2 H8 a20 a21 c8 hst8 => ?_⟩
        walk_at "vs"
        refine v_ix_lany (SqL.of (c8.keep hg (by simpa using ngst))) a20 (by show a2 < 5; omega) fun v hv => ?_
        obtain ⟨m, rfl, m0, m1⟩ : ∃ m : Int, v = .int m ∧ 0 ≤ m ∧ m < 7 := by
          have := List.mem_of_getElem? hv
          simp only [List.mem_cons, List.not_mem_nil, or_false] at this
          rcases this with rfl | rfl | rfl | rfl | rfl
          all_goals exact ⟨_, rfl, by omega, by omega⟩
        have hw8 := c8.keep (c7.at (c6.keep hw (by simpa using nwst))) (by simpa using nwst)
        refine v_ix_lany (SqL.of hw8) m0 (by show m < 7; omega) fun v hv => ?_
        obtain ⟨x, rfl, hx⟩ : ∃ x, v = .str x ∧ x ∈ binW := by
          have := List.mem_of_getElem? hv
          simp only [List.mem_cons, List.not_mem_nil, or_false] at this
          rcases this with rfl | rfl | rfl | rfl | rfl | rfl | rfl
          all_goals exact ⟨_, rfl, by simp [binW]⟩
        have cc8 := ((cc.trans c5.of0).trans c6).trans (c7.of0.trans c8)
        have c38 := (c5.of0.trans c6).trans (c7.of0.trans c8)
        walk_at "vs"
        refine ⟨st, dp - 1, b, l, bs, ls, rfl, hst8, by omega, by omega, kB cc8, kL cc8, lb, ll, nb, nl, fun v2 u2 H9 c9 hst9 r2 ok2 dp2 => ?_⟩
        walk_at "vs"
        refine v_newT (line9 (by show 3 ≤ 10000; decide)) fun t H10 nt c10 ht => ?_
        have hxo : PyData.strOk x = true := by
          simp only [binW, List.mem_cons, List.not_mem_nil, or_false] at hx
          rcases hx with rfl | rfl | rfl | rfl | rfl | rfl | rfl
          all_goals exact wOk (by simp)
        exact q _ (.bin x u1 u2) H10 ((cc8.trans c9).trans c10.of0) (hst9.on0 c10) (.tup ht (.cons (.str hxo) (.cons (((r1.on c38).on c9).on c10) (.one (r2.on c10))))) ⟨hx, ok1, ok2⟩ (by simp only [Vl.dp]; omega)
      · intro Q' hQ'
        walk_at "vs"
        refine v_iteD (fun h5 => ?_) (fun h5 => ?_)
        · walk_at "vs"
          refine v_len_l (SqL.of (kL cc)) ?_
          walk_at "vs"
          rw [List.length_map]
          exact hQ' _ _ ⟨rfl, fun h => by have := of_decide_eq_true h; omega⟩
        · walk_at "vs"
          exact hQ' _ _ ⟨rfl, fun z => by cases z⟩
    · intro Q' hQ'
      walk_at "vs"
      refine v_iteD (fun h => ?_) (fun h => ?_)
      · walk_at "vs"
        exact hQ' _ _ ⟨rfl, by simp [h]⟩
      · walk_at "vs"
        exact hQ' _ _ ⟨rfl, by simp [h]⟩
theorem ok__law_value (T : Txt K mg) (D : DefAt K mg "_law_value" s__law_value) (O__law_next : Own P w K mg base "_law_next" 1 ["_law_state_here", "_law_size"] (sp_next)) : ∀ n : Nat, Own P w K mg base "_law_value" (2 + n) ["_law_state_here", "_law_deep", "_law_boxes", "_law_lists"] (sp_value n)
  | 0 => own_of (k := 2) D (fun _ _ _ _ _ _ us hl => match us, hl with | [_, _, _, _], _ => rfl) (fnW_of (N := ["_law_state_here", "_law_deep", "_law_boxes", "_law_lists", "_law_kind", "_law_one", "_law_words", "_law_word"]) sc__law_value (fun vs H Q E h => ((show ∀ vs H Q E, ¬ (sp_value 0 : Sp) vs H Q E from fun vs H Q E => by rintro ⟨st, dp, b, l, bs, ls, rfl, _, h1, h2, _⟩; omega) vs H Q E h).elim) (fun f cdv A outer s H vs Q E hr h => ((show ∀ vs H Q E, ¬ (sp_value 0 : Sp) vs H Q E from fun vs H Q E => by rintro ⟨st, dp, b, l, bs, ls, rfl, _, h1, h2, _⟩; omega) vs H Q E h).elim))
  | n + 1 => st__law_value T D O__law_next n (ok__law_value T D O__law_next n)
abbrev s__law_odd : Stmt := topS 22
theorem sc__law_odd : FnScope ["_law_thing_here", "_law_state_here", "_law_kind", "_law_some", "_law_words", "_law_texts"] ["_law_thing_here", "_law_state_here"] (defScope s__law_odd) := ⟨rfl, rfl, rfl, by decide +kernel, rfl, by decide +kernel, by decide +kernel⟩
theorem ok__law_odd (T : Txt K mg) (D : DefAt K mg "_law_odd" s__law_odd) (O__law_next : Own P w K mg base "_law_next" 1 ["_law_state_here", "_law_size"] (sp_next)) : Own P w K mg base "_law_odd" 2 ["_law_thing_here", "_law_state_here"] (sp_odd) := by
  refine own_of D (fun _ _ _ _ _ _ us hl => match us, hl with | [_, _], _ => rfl) (fnW_of (N := ["_law_thing_here", "_law_state_here", "_law_kind", "_law_some", "_law_words", "_law_texts"]) sc__law_odd (fun vs H Q E h => ?_) (fun f cdv A outer s H vs Q E hr h => ?_))
  · obtain ⟨v, d, st, rfl, _⟩ := h; rfl
  · have nd := sc__law_odd.nd
    have hu := L2H.roomH_of hr
    have TK : L2N.Takes (cxOf (L2N.CX P w) P w K mg base ["_law_thing_here", "_law_state_here", "_law_kind", "_law_some", "_law_words", "_law_texts"] "_law_odd" (defScope s__law_odd) f cdv A outer s H E) (fun cls d _ H => E cls d H) := L2N.takes_of rfl rfl rfl rfl
    refine ⟨_, (pss_cons (ps_set (i := 2) nd rfl (by first | exact Or.inl rfl | exact Or.inr rfl) (pe_own O__law_next (by decide) hr rfl (fun σ => L2N.passAt TK σ) (pa_cons (pv 1) (pa_cons pe_int pa_nil))))
      (pss_cons (ps_if (PW.pt (pw_and (pt_cmpR op_ult (pv 2) pe_int (nomark _)) (pw_and1 (pt_u (K := K) (pe_callB (call_uisi (K := K)) (by rfl) T.n_isinstance (by decide +kernel) (pa_cons (pv 0) (pa_cons (pe_bltn (v := .ty "tuple") (by rfl) T.n_tuple (by decide +kernel) rfl) pa_nil)))))))
      (pss_cons (ps_set (i := 3) nd rfl (by first | exact Or.inl rfl | exact Or.inr rfl) (pe_lst (pa_cons (pe_callTy (call_ulist (K := K) rfl) (by rfl) T.n_list (by decide +kernel) (pa_cons (pv 0) pa_nil)) (pa_cons (pe_slice (sl_uS (K := K)) (pv 0) po_none (po_some (pe_un un_neg pe_int))) (pa_cons (pe_op (op_uadd (K := K)) (pv 0) (pe_slice (sl_uS (K := K)) (pv 0) (po_some (pe_un un_neg pe_int)) po_none)) (pa_cons (pe_revT (K := K) (pv 0)) (pa_cons (pe_tup pa_nil) (pa_cons (pe_slice (sl_uS (K := K)) (pv 0) (po_some pe_int) po_none) (pa_cons (pe_op (op_uadd (K := K)) (pv 0) (pe_tup (pa_cons pe_int pa_nil))) (pa_cons (pe_tup (pa_cons (pv 0) pa_nil)) pa_nil))))))))))
      (pss_cons (ps_set (i := 4) nd rfl (by first | exact Or.inl rfl | exact Or.inr rfl) (pe_lst (pa_cons pe_str (pa_cons pe_str (pa_cons pe_str (pa_cons pe_str (pa_cons pe_str (pa_cons pe_str (pa_cons pe_str (pa_cons pe_str (pa_cons pe_str (pa_cons pe_str (pa_cons pe_str (pa_cons pe_str pa_nil))))))))))))))
      (pss_one (ps_ret (pe_ix (ix_u (K := K) hu) (pe_op (op_uadd (K := K)) (pv 3) (pe_op op_umul (pe_lst (pa_cons (pe_op (op_uadd (K := K)) (pe_tup (pa_cons (pe_ix (ix_u (K := K) hu) (pv 4) (pe_own O__law_next (by decide) hr rfl (fun σ => L2N.passAt TK σ) (pa_cons (pv 1) (pa_cons pe_int pa_nil))) (fun _ _ => rfl)) pa_nil)) (pe_slice (sl_uS (K := K)) (pv 0) (po_some pe_int) po_none)) pa_nil)) pe_int)) (pe_own O__law_next (by decide) hr rfl (fun σ => L2N.passAt TK σ) (pa_cons (pv 1) (pa_cons pe_int pa_nil))) (fun _ _ => rfl)))))) pss_nil)
      (pss_cons (ps_if (PW.pt (pw_and (pt_cmpR op_ult (pv 2) pe_int (nomark _)) (pw_and1 (pt_u (K := K) (pe_callB (call_uisi (K := K)) (by rfl) T.n_isinstance (by decide +kernel) (pa_cons (pv 0) (pa_cons (pe_bltn (v := .ty "int") (by rfl) T.n_int (by decide +kernel) rfl) pa_nil)))))))
      (pss_one (ps_ret (pe_ix (ix_u (K := K) hu) (pe_lst (pa_cons (pe_cmpR (op_ueq (K := K) hu) (pv 0) pe_int (nomark _)) (pa_cons (pe_op op_sub (pe_un un_neg pe_int) (pv 0)) (pa_cons (pe_op (op_uadd (K := K)) (pv 0) pe_int) (pa_cons (pe_op (op_uadd (K := K)) (pv 0) pe_int) (pa_cons (pe_callTy call_ustrX (by rfl) T.n_str (by decide +kernel) (pa_cons (pv 0) pa_nil)) (pa_cons pe_int pa_nil))))))) (pe_own O__law_next (by decide) hr rfl (fun σ => L2N.passAt TK σ) (pa_cons (pv 1) (pa_cons pe_int pa_nil))) (fun _ _ => rfl)))) pss_nil)
      (pss_cons (ps_if (PW.pt (pw_and (pt_cmpR op_ult (pv 2) pe_int (nomark _)) (pw_and1 (pt_u (K := K) (pe_callB (call_uisi (K := K)) (by rfl) T.n_isinstance (by decide +kernel) (pa_cons (pv 0) (pa_cons (pe_bltn (v := .ty "str") (by rfl) T.n_str (by decide +kernel) rfl) pa_nil)))))))
      (pss_cons (ps_set (i := 5) nd rfl (by first | exact Or.inl rfl | exact Or.inr rfl) (pe_lst (pa_cons (pe_op (op_uadd (K := K)) (pv 0) pe_str) (pa_cons (pe_slice (sl_uS (K := K)) (pv 0) (po_some pe_int) po_none) (pa_cons (pe_op (op_uadd (K := K)) (pv 0) pe_str) (pa_cons (pe_bm0 PySem.F.plainAttrs_str PySem.F.slot_str_upper PySem.F.type_str_upper mt_uupper (pv 0)) (pa_cons (pe_op (op_uadd (K := K)) (pv 0) pe_str) (pa_cons (pe_op (op_uadd (K := K)) (pe_slice (sl_uS (K := K)) (pv 0) po_none (po_some (pe_un un_neg pe_int))) pe_str) pa_nil))))))))
      (pss_one (ps_ret (pe_ix (ix_u (K := K) hu) (pe_op (op_uadd (K := K)) (pv 5) (pe_lst (pa_cons pe_str (pa_cons pe_str (pa_cons pe_str (pa_cons pe_str pa_nil)))))) (pe_own O__law_next (by decide) hr rfl (fun σ => L2N.passAt TK σ) (pa_cons (pv 1) (pa_cons pe_int pa_nil))) (fun _ _ => rfl))))) pss_nil)
      (pss_cons (ps_set (i := 3) nd rfl (by first | exact Or.inl rfl | exact Or.inr rfl) (pe_lst (pa_cons pe_bl (pa_cons pe_non (pa_cons (pe_un un_neg pe_int) (pa_cons pe_int (pa_cons pe_int (pa_cons pe_int (pa_cons (pe_op op_pow pe_int pe_int) (pa_cons pe_str (pa_cons pe_str (pa_cons pe_str (pa_cons pe_str (pa_cons pe_str (pa_cons (pe_tup pa_nil) (pa_cons (pe_lst pa_nil) (pa_cons (pe_tup (pa_cons pe_str (pa_cons pe_int pa_nil))) (pa_cons pe_dnewK pa_nil))))))))))))))))))
      (pss_cons (ps_set (i := 3) nd rfl (by first | exact Or.inl rfl | exact Or.inr rfl) (pe_op (op_uadd (K := K)) (pv 3) (pe_lst (pa_cons (pe_tup (pa_cons pe_str (pa_cons pe_bl pa_nil))) (pa_cons (pe_tup (pa_cons pe_str (pa_cons pe_str pa_nil))) (pa_cons (pe_tup (pa_cons pe_str (pa_cons (pe_tup (pa_cons pe_str (pa_cons pe_int pa_nil))) pa_nil))) (pa_cons (pe_tup (pa_cons pe_str (pa_cons (pe_tup (pa_cons pe_str (pa_cons pe_int pa_nil))) pa_nil))) (pa_cons (pe_tup (pa_cons pe_str pa_nil)) pa_nil))))))))
      (pss_one (ps_ret (pe_ix (ix_u (K := K) hu) (pv 3) (pe_own O__law_next (by decide) hr rfl (fun σ => L2N.passAt TK σ) (pa_cons (pv 1) (pa_cons pe_int pa_nil))) (fun _ _ => rfl)))))))))), ?_⟩
    clear nd
    obtain ⟨v, d, st, rfl, rd, hg, hst, q⟩ := h
    walk_at "vs"
    refine ⟨st, 6, rfl, hst, by omega, fun kd H1 k0 k1 c1 hst1 => ?_⟩
    walk_at "vs"
    by_cases hk : kd < 3
    rotate_left
    · refine v_iteD (fun h => absurd h hk) (fun _ => ?_)
      walk_at "vs"
      refine v_iteD (fun h => absurd h hk) (fun _ => ?_)
      walk_at "vs"
      refine v_iteD (fun h => absurd h hk) (fun _ => ?_)
      walk_at "vs"
      refine v_newT (line9 (by show 0 ≤ 10000; decide)) fun t1 H2 n1 c2 e1 => ?_
      walk_at "vs"
      refine v_newL (line9 (by show 0 ≤ 10000; decide)) fun l1 H3 n2 c3 e2 => ?_
      walk_at "vs"
      refine v_newT (line9 (by show 2 ≤ 10000; decide)) fun t2 H4 n3 c4 e3 => ?_
      walk_at "vs"
      refine v_dnewK fun g1 H5 n4 c5 e4 => ?_
      walk_at "vs"
      refine v_newL (line9 (by show 16 ≤ 10000; decide)) fun p1 H6 n5 c6 e5 => ?_
      walk_at "vs"
      refine v_newT (line9 (by show 2 ≤ 10000; decide)) fun t3 H7 n6 c7 e6 => ?_
      walk_at "vs"
      refine v_newT (line9 (by show 2 ≤ 10000; decide)) fun t4 H8 n7 c8 e7 => ?_
      walk_at "vs"
      refine v_newT (line9 (by show 2 ≤ 10000; decide)) fun t5 H9 n8 c9 e8 => ?_
      walk_at "vs"
      refine v_newT (line9 (by show 2 ≤ 10000; decide)) fun t6 H10 n9 c10 e9 => ?_
      walk_at "vs"
      refine v_newT (line9 (by show 2 ≤ 10000; decide)) fun t7 H11 n10 c11 e10 => ?_
      walk_at "vs"
      refine v_newT (line9 (by show 2 ≤ 10000; decide)) fun t8 H12 n11 c12 e11 => ?_
      walk_at "vs"
      refine v_newT (line9 (by show 1 ≤ 10000; decide)) fun t9 H13 n12 c13 e12 => ?_
      walk_at "vs"
      refine v_newL (line9 (by show 5 ≤ 10000; decide)) fun p2 H14 n13 c14 e13 => ?_
      walk_at "vs"
      have k6 := (((((((c7.trans c8).trans c9).trans c10).trans c11).trans c12).trans c13).trans c14)
      refine v_add_ll (k6.at e5) e13 (line9 (by show 21 ≤ 10000; decide)) fun p3 H15 n14 c15 e14 => ?_
      walk_at "vs"
      have h15 : Chg [] H1 H15 := (((((c2.trans c3).trans c4).trans c5).trans c6).trans k6).trans c15
      have hst15 := hst1.on0 h15
      refine ⟨st, 21, rfl, hst15, by omega, fun j H16 j0 j1 c16 hst16 => ?_⟩
      refine v_ix_lany (SqL.of (c16.keep e14 (by simpa using (hst1.on0 (((((c2.trans c3).trans c4).trans c5).trans c6).trans k6)).neN n14))) j0 (by show j < ((21 : Nat) : Int); omega) fun u hu => ?_
      have m16 : ∀ {p o}, H15 p = some o → p ≠ st → H16 p = some o := fun h n => c16.keep h (by simpa using n)
      have tp : ∀ {p xs}, H15 p = some (.tup xs) → H16 p = some (.tup xs) := fun h => c16.tup h
      refine q u H16 ((c1.trans h15.of0).trans c16) hst16 ?_
      have hm := List.mem_of_getElem? hu
      have i1 : ∀ {F : Addr → Prop} {x : V} {s : Str} {t : Th}, s.length ≤ 1000 → Tq F H16 x t → TqA F H16 [.str s, x] [.str s, t] := fun hs h => .cons (.str hs) (.one h)
      simp only [List.cons_append, List.nil_append, List.mem_cons, List.not_mem_nil, or_false] at hm
      have k14 : ∀ {Hx : Hp} {p xs}, Chg [] Hx H15 → Hx p = some (.tup xs) → H16 p = some (.tup xs) := fun c h => tp (c.tup h)
      have d15 := c15
      have d14 := c14.trans d15
      have d13 := c13.trans d14
      have d12 := c12.trans d13
      have d11 := c11.trans d12
      have d10 := c10.trans d11
      have d9 := c9.trans d10
      have d8 := c8.trans d9
      have d7 := c7.trans d8
      have d6 := c6.trans d7
      have d5 := c5.trans d6
      have d4 := c4.trans d5
      have d3 := c3.trans d4
      have kt : ∀ {p : Addr} {x : V} {s : Str} {t : Th}, s.length ≤ 1000 → H16 p = some (.tup [.str s, x]) → Tq (fun b => b ≠ st) H16 x t → OkV st H16 (.ref p) := fun hs e h => .tup e (i1 hs h)
      rcases hm with rfl | rfl | rfl | rfl | rfl | rfl | rfl | rfl | rfl | rfl | rfl | rfl | rfl | rfl | rfl | rfl | rfl | rfl | rfl | rfl | rfl
      · exact .bl _
      · exact ⟨_, .non⟩
      · exact .int _
      · exact .int _
      · exact .int _
      · exact .int _
      · exact .int _
      · exact .str (by decide)
      · exact .str (by decide)
      · exact .str (by decide)
      · exact .str (by decide)
      · exact .str (by decide)
      · exact .tup (k14 d3 e1) .nil
      · exact ⟨_, .lst ((hst1.on0 c2).neN n2) (m16 (d4.at e2) ((hst1.on0 c2).neN n2)) .nil⟩
      · exact kt (by decide) (k14 d5 e3) (.int _)
      · exact ⟨_, .dic ((hst1.on0 ((c2.trans c3).trans c4)).neN n4) (m16 (d6.at e4) ((hst1.on0 ((c2.trans c3).trans c4)).neN n4))⟩
      · exact kt (by decide) (k14 d8 e6) (.bl _)
      · exact kt (by decide) (k14 d9 e7) (.str (by decide))
      · exact kt (by decide) (k14 d11 e9) (.tup (k14 d10 e8) (i1 (by decide) (.int _)))
      · exact kt (by decide) (k14 d13 e11) (.tup (k14 d12 e10) (i1 (by decide) (.int _)))
      · exact .tup (k14 d14 e12) (.one (.str (by decide)))
    have rd1 := rd.on c1
    cases rd1 with
    | non => cases hg
    | bl b => cases hg
    | int i =>
      rw [gdD, Bool.and_eq_true, decide_eq_true_eq, decide_eq_true_eq] at hg
      refine v_iteD (fun _ => ?_) (fun h => absurd hk h)
      walk_at "vs"
      refine v_iteD (fun _ => ?_) (fun h => absurd hk h)
      walk_at "vs"
      refine v_str_i (log2_small hg.1 hg.2) ?_
      walk_at "vs"
      refine v_newL (line9 (by show 6 ≤ 10000; decide)) fun p1 H2 n1 c2 h1 => ?_
      walk_at "vs"
      refine ⟨st, 6, rfl, hst1.on0 c2, by omega, fun j H3 j0 j1 c3 hst3 => ?_⟩
      refine v_ix_lany (SqL.of (c3.keep h1 (by simpa using hst1.neN n1))) j0 (by show j < ((6 : Nat) : Int); omega) fun u hu => ?_
      refine q u H3 ((c1.trans c2.of0).trans c3) hst3 ?_
      have hm := List.mem_of_getElem? hu
      simp only [List.mem_cons, List.not_mem_nil, or_false] at hm
      have hl := iS_len hg.1 hg.2
      rcases hm with rfl | rfl | rfl | rfl | rfl | rfl
      · exact .bl _
      · exact .int _
      · exact .int _
      · exact .int _
      · exact .str (by show (iS i).length ≤ 1000; omega)
      · exact .int _
    | str hs =>
      rename_i z
      rw [gdD, decide_eq_true_eq] at hg
      have hup := PyProof.Rows.len_upper z
      refine v_iteD (fun _ => ?_) (fun h => absurd hk h)
      walk_at "vs"
      refine v_iteD (fun _ => ?_) (fun h => absurd hk h)
      walk_at "vs"
      refine v_iteD (fun _ => ?_) (fun h => absurd hk h)
      walk_at "vs"
      refine v_add_ss (line9 (by show z.length + 1 ≤ 10000; omega)) ?_
      walk_at "vs"
      refine v_slS (line9 (by omega)) ?_
      walk_at "vs"
      refine v_add_ss (line9 (by show z.length + 1 ≤ 10000; omega)) ?_
      walk_at "vs"
      refine v_upper_s (by omega) ?_
      walk_at "vs"
      refine v_add_ss (line9 (by show z.length + 6 ≤ 10000; omega)) ?_
      walk_at "vs"
      refine v_slS (line9 (by omega)) ?_
      have hc1 := cutS_len z (some 1) none
      have hc2 := cutS_len z none (some (-1))
      refine v_add_ss (line9 (by show (cutS z none (some (-1))).length + 1 ≤ 10000; omega)) ?_
      walk_at "vs"
      refine v_newL (line9 (by show 6 ≤ 10000; decide)) fun p1 H2 n1 c2 e1 => ?_
      walk_at "vs"
      refine v_newL (line9 (by show 4 ≤ 10000; decide)) fun p2 H3 n2 c3 e2 => ?_
      walk_at "vs"
      refine v_add_ll (c3.at e1) e2 (line9 (by show 10 ≤ 10000; decide)) fun p3 H4 n3 c4 e3 => ?_
      walk_at "vs"
      have h4 : Chg [] H1 H4 := (c2.trans c3).trans c4
      refine ⟨st, 10, rfl, hst1.on0 h4, by omega, fun j H5 j0 j1 c5 hst5 => ?_⟩
      refine v_ix_lany (SqL.of (c5.keep e3 (by simpa using (hst1.on0 (c2.trans c3)).neN n3))) j0 (by show j < ((10 : Nat) : Int); omega) fun u hu => ?_
      refine q u H5 ((c1.trans h4.of0).trans c5) hst5 ?_
      have hm := List.mem_of_getElem? hu
      simp only [List.cons_append, List.nil_append, List.mem_cons, List.not_mem_nil, or_false] at hm
      have la : ∀ x y : Str, (x ++ y).length = x.length + y.length := Str.length_append
      rcases hm with rfl | rfl | rfl | rfl | rfl | rfl | rfl | rfl | rfl | rfl
      · exact .str (by rw [la]; show z.length + 1 ≤ 1000; omega)
      · exact .str (by omega)
      · exact .str (by rw [la]; show z.length + 1 ≤ 1000; omega)
      · exact .str (by omega)
      · exact .str (by rw [la]; show z.length + 6 ≤ 1000; omega)
      · exact .str (by rw [la]; show (cutS z none (some (-1))).length + 1 ≤ 1000; omega)
      · exact .str (by decide)
      · exact .str (by decide)
      · exact .str (by decide)
      · exact .str (by decide)
    | tup e r =>
      rename_i a xs ds
      rw [gdD, Bool.and_eq_true, decide_eq_true_eq] at hg
      have hl : xs.length = ds.length := r.length
      refine v_iteD (fun _ => ?_) (fun h => absurd hk h)
      walk_at "vs"
      refine v_isi_t_tuple e ?_
      walk_at "vs"
      have st1 := fun {p : Addr} {H' : Hp} (c : Chg [] H1 H') (h : H' p = none) => (hst1.on0 c).neN h
      refine v_list_t (SqT.of e) fun l1 H2 n1 c2 e1 => ?_
      walk_at "vs"
      refine .inl (v_sl_t (c2.tup e) fun t2 H3 c3 e2 => ?_)
      walk_at "vs"
      have k3 := c2.trans c3
      refine .inl (v_sl_t (k3.tup e) fun t3 H4 c4 e3 => ?_)
      have k4 := k3.trans c4
      have l3 : (cutV xs (some (-1)) none).length ≤ xs.length := cutV_length _ _ _
      refine v_add_tt (k4.tup e) e3 (line9 (by omega)) fun t4 H5 c5 e4 => ?_
      have k5 := k4.trans c5
      walk_at "vs"
      refine v_backT (SqT.of (k5.tup e)) fun t5 H6 n5 c6 e5 => ?_
      have k6 := k5.trans c6
      walk_at "vs"
      refine v_newT (line9 (by show 0 ≤ 10000; decide)) fun t6 H7 n6 c7 e6 => ?_
      have k7 := k6.trans c7
      walk_at "vs"
      refine .inl (v_sl_t (k7.tup e) fun t7 H8 c8 e7 => ?_)
      have k8 := k7.trans c8
      walk_at "vs"
      refine v_newT (line9 (by show 1 ≤ 10000; decide)) fun t8 H9 n8 c9 e8 => ?_
      have k9 := k8.trans c9
      refine v_add_tt (k9.tup e) e8 (line9 (by show xs.length + 1 ≤ 10000; omega)) fun t9 H10 c10 e9 => ?_
      have k10 := k9.trans c10
      walk_at "vs"
      refine v_newT (line9 (by show 1 ≤ 10000; decide)) fun t10 H11 n10 c11 e10 => ?_
      have k11 := k10.trans c11
      walk_at "vs"
      refine v_newL (line9 (by show 8 ≤ 10000; decide)) fun p11 H12 n11 c12 e11 => ?_
      have k12 := k11.trans c12
      walk_at "vs"
      refine v_newL (line9 (by show 12 ≤ 10000; decide)) fun p12 H13 n12 c13 e12 => ?_
      have k13 := k12.trans c13
      walk_at "vs"
      have e12' : H13 p12 = some (.lst (([Str.ofString "number", Str.ofString "box", Str.ofString "size", Str.ofString "not", Str.ofString "item", Str.ofString "plus", Str.ofString "set", Str.ofString "push", Str.ofString "if", Str.ofString "while", Str.ofString "return", Str.ofString "def"] : List Str).map V.str)) := e12
      refine ⟨st, 12, rfl, hst1.on0 k13, by omega, fun j H14 j0 j1 c14 hst14 => ?_⟩
      refine v_ix_strs (SqL.of (c14.keep e12' (by simpa using st1 k12 n12))) j0 (by show j < ((12 : Nat) : Int); omega) fun wd hwd => ?_
      walk_at "vs"
      have hwl : wd.length ≤ 1000 := by
        simp only [List.mem_cons, List.not_mem_nil, or_false] at hwd
        rcases hwd with rfl | rfl | rfl | rfl | rfl | rfl | rfl | rfl | rfl | rfl | rfl | rfl <;> decide
      refine v_newT (line9 (by show 1 ≤ 10000; decide)) fun t13 H15 n13 c15 e13 => ?_
      have kk := (k13.of0.trans c14).trans c15.of0
      walk_at "vs"
      refine .inl (v_sl_t (kk.tup e) fun t14 H16 c16 e14 => ?_)
      have l14 : (cutV xs (some 1) none).length ≤ xs.length := cutV_length _ _ _
      refine v_add_tt (c16.tup e13) e14 (line9 (by show 1 + (cutV xs (some 1) none).length ≤ 10000; omega)) fun t15 H17 c17 e15 => ?_
      walk_at "vs"
      refine v_newL (line9 (by show 1 ≤ 10000; decide)) fun p16 H18 n16 c18 e16 => ?_
      walk_at "vs"
      have g15 : Chg [st] H14 H17 := (c15.trans (c16.trans c17)).of0
      have k17 : Chg [st] H1 H17 := kk.trans (c16.trans c17).of0
      have hst18 : StAt H18 st := hst14.on0 (((c15.trans c16).trans c17).trans c18)
      refine v_mul_l (k := 4) e16 (by omega) (by show 1 * 4 ≤ 10000; decide) fun p17 H19 n17 c19 e17 => ?_
      have hst19 := hst18.on0 c19
      have x11 : H19 p11 = some (.lst [.ref l1, .ref t2, .ref t4, .ref t5, .ref t6, .ref t7, .ref t9, .ref t10]) := by
        have := (c13.at e11)
        have := c14.keep this (by simpa using st1 k11 n11)
        exact ((((c15.trans c16).trans c17).trans c18).trans c19).at this
      refine v_add_ll x11 e17 (line9 (by show 12 ≤ 10000; decide)) fun p18 H20 n18 c20 e18 => ?_
      walk_at "vs"
      have hst20 := hst19.on0 c20
      refine ⟨st, 12, rfl, hst20, by omega, fun i H21 i0 i1 c21 hst21 => ?_⟩
      refine v_ix_lany (SqL.of (c21.keep e18 (by simpa using hst19.neN n18))) i0 (by show i < ((12 : Nat) : Int); omega) fun u hu => ?_
      have c1420 : Chg [] H14 H20 := ((((c15.trans c16).trans c17).trans c18).trans c19).trans c20
      refine q u H21 (((c1.trans k13.of0).trans c14).trans (c1420.of0.trans c21)) hst21 ?_
      have k1321 : Chg [st] H13 H21 := c14.trans (c1420.of0.trans c21)
      have tp : ∀ {Hx : Hp} {p ys}, Chg [] Hx H13 → Hx p = some (.tup ys) → H21 p = some (.tup ys) := fun c h => k1321.tup (c.tup h)
      have hm := List.mem_of_getElem? hu
      simp only [List.cons_append, List.nil_append, List.mem_cons, List.not_mem_nil, or_false, List.replicate, List.flatten_cons, List.flatten_nil, or_self] at hm
      have r21 : TqA (fun b => b ≠ st) H21 xs (Th.ofs ds) := rpA_tq ds _ (gds_shs ds hg.2) ((r.on k13).on k1321)
      have d13 := c13
      have d12 := c12.trans d13
      have d11 := c11.trans d12
      have d10 := c10.trans d11
      have d9 := c9.trans d10
      have d8 := c8.trans d9
      have d7 := c7.trans d8
      have d6 := c6.trans d7
      have d5 := c5.trans d6
      have d4 := c4.trans d5
      have d3 := c3.trans d4
      rcases hm with rfl | rfl | rfl | rfl | rfl | rfl | rfl | rfl | rfl
      · exact ⟨_, .lst (hst1.neN n1) (k1321.keep (d3.at e1) (by simpa using hst1.neN n1)) r21⟩
      · exact .tup (tp d4 e2) (r21.cut _ _)
      · exact .tup (tp d6 e4) (r21.app (r21.cut _ _))
      · exact .tup (tp d7 e5) r21.rev
      · exact .tup (tp d8 e6) .nil
      · exact .tup (tp d9 e7) (r21.cut _ _)
      · exact .tup (tp d11 e9) (r21.app (.one (.int 0)))
      · exact .tup (tp d12 e10) (.one (.tup (k1321.tup (k13.tup e)) r21))
      · exact OkV.tup ((((((c18.trans c19).trans c20).of0).trans c21)).tup e15) (TqA.cons (.str hwl) (r21.cut _ _))
abbrev s__law_spoilt : Stmt := topS 23
theorem sc__law_spoilt : FnScope ["_law_thing_here", "_law_state_here", "_law_at"] ["_law_thing_here", "_law_state_here"] (defScope s__law_spoilt) := ⟨rfl, rfl, rfl, by decide +kernel, rfl, by decide +kernel, by decide +kernel⟩
theorem st__law_spoilt (T : Txt K mg) (D : DefAt K mg "_law_spoilt" s__law_spoilt) (O__law_next : Own P w K mg base "_law_next" 1 ["_law_state_here", "_law_size"] (sp_next)) (O__law_odd : Own P w K mg base "_law_odd" 2 ["_law_thing_here", "_law_state_here"] (sp_odd)) (n : Nat) (O__law_spoilt : Own P w K mg base "_law_spoilt" (3 + n) ["_law_thing_here", "_law_state_here"] (sp_spoilt n)) : Own P w K mg base "_law_spoilt" (3 + n + 1) ["_law_thing_here", "_law_state_here"] (sp_spoilt (n + 1)) := by
  refine own_of D (fun _ _ _ _ _ _ us hl => match us, hl with | [_, _], _ => rfl) (fnW_of (k := 3 + n) (N := ["_law_thing_here", "_law_state_here", "_law_at"]) sc__law_spoilt (fun vs H Q E h => ?_) (fun f cdv A outer s H vs Q E hr h => ?_))
  · obtain ⟨v, d, st, rfl, _⟩ := h; rfl
  · have nd := sc__law_spoilt.nd
    have hu := L2H.roomH_of hr
    have TK : L2N.Takes (cxOf (L2N.CX P w) P w K mg base ["_law_thing_here", "_law_state_here", "_law_at"] "_law_spoilt" (defScope s__law_spoilt) f cdv A outer s H E) (fun cls d _ H => E cls d H) := L2N.takes_of rfl rfl rfl rfl
    refine ⟨_, (pss_cons (ps_if (PW.pt (pw_or (pt_not (pt_u (K := K) (pe_callB (call_uisi (K := K)) (by rfl) T.n_isinstance (by decide +kernel) (pa_cons (pv 0) (pa_cons (pe_bltn (v := .ty "tuple") (by rfl) T.n_tuple (by decide +kernel) rfl) pa_nil))))) (pw_or (pt_cmpR (op_ueq (K := K) hu) (pv 0) (pe_tup pa_nil) (nomark _)) (pw_or1 (pt_cmpR (op_ueq (K := K) hu) (pe_own O__law_next (by omega) hr rfl (fun σ => L2N.passAt TK σ) (pa_cons (pv 1) (pa_cons pe_int pa_nil))) pe_int (nomark _))))))
      (pss_one (ps_ret (pe_own O__law_odd (by omega) hr rfl (fun σ => L2N.passAt TK σ) (pa_cons (pv 0) (pa_cons (pv 1) pa_nil))))) pss_nil)
      (pss_cons (ps_set (i := 2) nd rfl (by first | exact Or.inl rfl | exact Or.inr rfl) (pe_own O__law_next (by omega) hr rfl (fun σ => L2N.passAt TK σ) (pa_cons (pv 1) (pa_cons (pe_callB (call_ulen (K := K)) (by rfl) T.n_len (by decide +kernel) (pa_cons (pv 0) pa_nil)) pa_nil))))
      (pss_one (ps_ret (pe_op (op_uadd (K := K)) (pe_op (op_uadd (K := K)) (pe_slice (sl_u (K := K)) (pv 0) po_none (po_some (pv 2))) (pe_tup (pa_cons (pe_own O__law_spoilt (by omega) hr rfl (fun σ => L2N.passAt TK σ) (pa_cons (pe_ix (ix_u (K := K) hu) (pv 0) (pv 2) (fun _ _ => rfl)) (pa_cons (pv 1) pa_nil))) pa_nil))) (pe_slice (sl_u (K := K)) (pv 0) (po_some (pe_op (op_uadd (K := K)) (pv 2) pe_int)) po_none)))))), ?_⟩
    clear nd
    obtain ⟨v, d, st, rfl, rd, hg, hdep, hd60, hst, q⟩ := h
    walk_at "vs"
    cases rd with
    | non => cases hg
    | bl b => cases hg
    | int i =>
      walk_at "vs"
      exact ⟨_, _, st, rfl, .int i, hg, hst, q⟩
    | str hs =>
      walk_at "vs"
      exact ⟨_, _, st, rfl, .str hs, hg, hst, q⟩
    | tup e r =>
      rename_i a xs ds
      have hg' := hg
      rw [gdD, Bool.and_eq_true, decide_eq_true_eq] at hg
      have hl : xs.length = ds.length := r.length
      refine v_isi_t_tuple e ?_
      walk_at "vs"
      refine v_newT (line9 (by show 0 ≤ 10000; decide)) fun t1 H1 n1 c1 e1 => ?_
      refine v_eq_D (.tup (c1.tup e) (r.on c1)) (.tup e1 .nil) (by omega) (by decide) ?_
      rw [show (RT.D.eqv (.tup ds) (.tup [])) = ds.isEmpty from by cases ds <;> rfl]
      cases ds with
      | nil =>
        walk_at "vs"
        refine v_iteT ?_
        walk_at "vs"
        exact ⟨_, _, st, rfl, .tup (c1.tup e) (r.on c1), hg', hst.on0 c1, fun v' H' c h1 h2 => q v' H' (c1.of0.trans c) h1 h2⟩
      | cons d0 ds =>
        walk_at "vs"
        refine v_iteF ?_
        walk_at "vs"
        refine ⟨st, 4, rfl, hst.on0 c1, by omega, fun i H2 i0 i1 c2 hst2 => ?_⟩
        have k2 := c1.of0.trans c2
        walk_at "vs"
        refine v_iteD (fun _ => ?_) (fun _ => ?_)
        · walk_at "vs"
          exact ⟨_, _, st, rfl, .tup (k2.tup e) (r.on k2), hg', hst2, fun v' H' c h1 h2 => q v' H' (k2.trans c) h1 h2⟩
        · walk_at "vs"
          refine v_len_t (SqT.of (k2.tup e)) ?_
          walk_at "vs"
          rw [List.length_cons] at hl
          refine ⟨st, _, rfl, hst2, by omega, fun j H3 j0 j1 c3 hst3 => ?_⟩
          have k3 := k2.trans c3
          walk_at "vs"
          refine v_sl_t (k3.tup e) fun p1 H4 c4 h1 => ?_
          walk_at "vs"
          have k4 := k3.trans c4.of0
          obtain ⟨m, rfl⟩ : ∃ m : Nat, j = m := ⟨j.toNat, by omega⟩
          have hm : m < xs.length := by omega
          obtain ⟨d, hd, rx⟩ := r.get (List.getElem?_eq_getElem hm)
          have hdm := List.mem_of_getElem? hd
          have hdd : d.dep ≤ RT.D.deps (d0 :: ds) := RT.D.dep_mem hdm
          rw [RT.D.dep] at hdep hd60
          refine v_ix_t (SqT.of (k4.tup e)) (atI_nat (List.getElem?_eq_getElem hm)) ?_
          walk_at "vs"
          refine ⟨_, d, st, rfl, rx.on k4, gdDs_mem hg.2 hdm, by omega, by omega, hst3.on0 c4, fun v' H5 c5 hst5 hv' => ?_⟩
          walk_at "vs"
          refine v_newT (line9 (by show 1 ≤ 10000; decide)) fun p2 H6 n6 c6 h2 => ?_
          have k46 := c5.trans c6.of0
          have l1 : (cutV xs none (some (m : Int))).length ≤ xs.length := cutV_length _ _ _
          have l2 : (cutV xs (some ((m : Int) + 1)) none).length ≤ xs.length := cutV_length _ _ _
          have hll := hg.1
          rw [List.length_cons] at hll
          refine v_add_tt (k46.tup h1) h2 (line9 (by show (cutV xs none (some (m : Int))).length + 1 ≤ 10000; omega)) fun p3 H7 c7 h3 => ?_
          walk_at "vs"
          have k7 := (k4.trans k46).trans c7.of0
          refine v_sl_t (k7.tup e) fun p4 H8 c8 h4 => ?_
          refine v_add_tt (c8.tup h3) h4 (line9 (by rw [List.length_append, List.length_singleton]; omega)) fun p5 H9 c9 h5 => ?_
          have k9 := (k7.trans c8.of0).trans c9.of0
          have r9 : TqA (fun b => b ≠ st) H9 xs (Th.ofs (d0 :: ds)) := rpA_tq _ _ (gds_shs _ hg.2) (r.on k9)
          obtain ⟨t, ht⟩ := hv'
          have ht9 : Tq (fun b => b ≠ st) H9 v' t := ht.on0 (((c6.trans c7).trans c8).trans c9)
          exact q _ H9 k9 ((((hst5.on0 c6).on0 c7).on0 c8).on0 c9) (OkV.tup h5 (((r9.cut _ _).app (.one ht9)).app (r9.cut _ _)))
theorem ok__law_spoilt (T : Txt K mg) (D : DefAt K mg "_law_spoilt" s__law_spoilt) (O__law_next : Own P w K mg base "_law_next" 1 ["_law_state_here", "_law_size"] (sp_next)) (O__law_odd : Own P w K mg base "_law_odd" 2 ["_law_thing_here", "_law_state_here"] (sp_odd)) : ∀ n : Nat, Own P w K mg base "_law_spoilt" (3 + n) ["_law_thing_here", "_law_state_here"] (sp_spoilt n)
  | 0 => own_of (k := 3) D (fun _ _ _ _ _ _ us hl => match us, hl with | [_, _], _ => rfl) (fnW_of (N := ["_law_thing_here", "_law_state_here", "_law_at"]) sc__law_spoilt (fun vs H Q E h => ((show ∀ vs H Q E, ¬ (sp_spoilt 0 : Sp) vs H Q E from fun _ _ _ _ ⟨_, _, _, _, _, _, h, _⟩ => absurd h (Nat.not_lt_zero _)) vs H Q E h).elim) (fun f cdv A outer s H vs Q E hr h => ((show ∀ vs H Q E, ¬ (sp_spoilt 0 : Sp) vs H Q E from fun _ _ _ _ ⟨_, _, _, _, _, _, h, _⟩ => absurd h (Nat.not_lt_zero _)) vs H Q E h).elim))
  | n + 1 => st__law_spoilt T D O__law_next O__law_odd n (ok__law_spoilt T D O__law_next O__law_odd n)
abbrev s__law_same : Stmt := topS 24
theorem sc__law_same : FnScope ["_law_found", "_law_due"] ["_law_found", "_law_due"] (defScope s__law_same) := ⟨rfl, rfl, rfl, by decide +kernel, rfl, by decide +kernel, by decide +kernel⟩
theorem ok__law_same (T : Txt K mg) (D : DefAt K mg "_law_same" s__law_same) : Own P w K mg base "_law_same" 1 ["_law_found", "_law_due"] (sp_same) := by
  refine own_of D (fun _ _ _ _ _ _ us hl => match us, hl with | [_, _], _ => rfl) (fnW_of (N := ["_law_found", "_law_due"]) sc__law_same (fun vs H Q E h => ?_) (fun f cdv A outer s H vs Q E hr h => ?_))
  · obtain ⟨x, y, rfl, _⟩ := h; rfl
  · have nd := sc__law_same.nd
    have hu := L2H.roomH_of hr
    refine ⟨_, (pss_one (ps_ret (pe_and (pe_callB (call_uisi (K := K)) (by rfl) T.n_isinstance (by decide +kernel) (pa_cons (pv 0) (pa_cons (pe_bltn (v := .ty "bool") (by rfl) T.n_bool (by decide +kernel) rfl) pa_nil))) (pe_one (pe_cmpR (op_ueq (K := K) hu) (pv 0) (pv 1) (nomark _)))))), ?_⟩
    clear nd
    obtain ⟨x, y, rfl, q⟩ := h
    walk_at "vs"
    exact q
abbrev s__law_thing : Stmt := topS 25
theorem sc__law_thing : FnScope ["_law_state_here", "_law_boxes", "_law_lists", "_law_thing_here", "_law_kind", "_law_k"] ["_law_state_here", "_law_boxes", "_law_lists"] (defScope s__law_thing) := ⟨rfl, rfl, rfl, by decide +kernel, rfl, by decide +kernel, by decide +kernel⟩
theorem ok__law_thing (T : Txt K mg) (D : DefAt K mg "_law_thing" s__law_thing) (O__law_value : Own P w K mg base "_law_value" 8 ["_law_state_here", "_law_deep", "_law_boxes", "_law_lists"] (sp_value 6)) (O__law_next : Own P w K mg base "_law_next" 1 ["_law_state_here", "_law_size"] (sp_next)) (O__law_spoilt : Own P w K mg base "_law_spoilt" 11 ["_law_thing_here", "_law_state_here"] (sp_spoilt 8)) : Own P w K mg base "_law_thing" 12 ["_law_state_here", "_law_boxes", "_law_lists"] (sp_thing) := by
  refine own_of D (fun _ _ _ _ _ _ us hl => match us, hl with | [_, _, _], _ => rfl) (fnW_of (N := ["_law_state_here", "_law_boxes", "_law_lists", "_law_thing_here", "_law_kind", "_law_k"]) sc__law_thing (fun vs H Q E h => ?_) (fun f cdv A outer s H vs Q E hr h => ?_))
  · obtain ⟨st, b, l, bs, ls, rfl, _⟩ := h; rfl
  · have nd := sc__law_thing.nd
    have hu := L2H.roomH_of hr
    have TK : L2N.Takes (cxOf (L2N.CX P w) P w K mg base ["_law_state_here", "_law_boxes", "_law_lists", "_law_thing_here", "_law_kind", "_law_k"] "_law_thing" (defScope s__law_thing) f cdv A outer s H E) (fun cls d _ H => E cls d H) := L2N.takes_of rfl rfl rfl rfl
    refine ⟨_, (pss_cons (ps_set (i := 3) nd rfl (by first | exact Or.inl rfl | exact Or.inr rfl) (pe_own O__law_value (by decide) hr rfl (fun σ => L2N.passAt TK σ) (pa_cons (pv 0) (pa_cons (pe_op (op_uadd (K := K)) pe_int (pe_own O__law_next (by decide) hr rfl (fun σ => L2N.passAt TK σ) (pa_cons (pv 0) (pa_cons pe_int pa_nil)))) (pa_cons (pv 1) (pa_cons (pv 2) pa_nil))))))
      (pss_cons (ps_set (i := 4) nd rfl (by first | exact Or.inl rfl | exact Or.inr rfl) (pe_own O__law_next (by decide) hr rfl (fun σ => L2N.passAt TK σ) (pa_cons (pv 0) (pa_cons pe_int pa_nil))))
      (pss_cons (ps_if (pt_cmpR op_ult (pv 4) pe_int (nomark _))
      (pss_one (ps_ret (pe_own O__law_spoilt (by decide) hr rfl (fun σ => L2N.passAt TK σ) (pa_cons (pv 3) (pa_cons (pv 0) pa_nil))))) pss_nil)
      (pss_cons (ps_if (pt_cmpR (op_ueq (K := K) hu) (pv 4) pe_int (nomark _))
      (pss_one (ps_ret (pe_own O__law_value (by decide) hr rfl (fun σ => L2N.passAt TK σ) (pa_cons (pv 0) (pa_cons (pe_op (op_uadd (K := K)) pe_int (pe_own O__law_next (by decide) hr rfl (fun σ => L2N.passAt TK σ) (pa_cons (pv 0) (pa_cons pe_int pa_nil)))) (pa_cons (pv 2) (pa_cons (pv 1) pa_nil))))))) pss_nil)
      (pss_cons (ps_if (PW.pt (pw_and (pt_cmpR (op_ueq (K := K) hu) (pv 4) pe_int (nomark _)) (pw_and1 (pt_cmpR (op_ueq (K := K) hu) (pe_own O__law_next (by decide) hr rfl (fun σ => L2N.passAt TK σ) (pa_cons (pv 0) (pa_cons pe_int pa_nil))) pe_int (nomark _)))))
      (pss_one (ps_for (passes_of rfl) rfl (pi_range1 rfl T.n_range (pa_cons (pe_own O__law_next (by decide) hr rfl (fun σ => L2N.passAt TK σ) (pa_cons (pv 0) (pa_cons pe_int pa_nil))) pa_nil)) (pg_name (i := 5) nd rfl (by first | exact Or.inl rfl | exact Or.inr rfl))
      (pss_one (ps_set (i := 3) nd rfl (by first | exact Or.inl rfl | exact Or.inr rfl) (pe_tup (pa_cons pe_str (pa_cons (pv 3) pa_nil))))))) pss_nil)
      (pss_one (ps_ret (pv 3)))))))), ?_⟩
    clear nd
    obtain ⟨st, b, l, bs, ls, rfl, hst, hb, hl, lb, ll, nb, nl, q⟩ := h
    have bst := hst.ne_strs hb
    have lst := hst.ne_strs hl
    walk_at "vs"
    refine ⟨st, 6, rfl, hst, by omega, fun k1 H1 k10 k11 c1 hst1 => ?_⟩
    walk_at "vs"
    refine ⟨st, 1 + k1, b, l, bs, ls, rfl, hst1, by omega, by omega, c1.keep hb (by simpa using bst), c1.keep hl (by simpa using lst), lb, ll, nb, nl, fun v u H2 c2 hst2 rv uo ud => ?_⟩
    have gu := vl_gd (fun z h => nb z h) (fun z h => nl z h) u uo
    have du : u.d.dep ≤ 6 := by rw [Vl.dep]; omega
    walk_at "vs"
    refine ⟨st, 8, rfl, hst2, by omega, fun k3 H3 k30 k31 c3 hst3 => ?_⟩
    have k13 := (c1.trans c2).trans c3
    walk_at "vs"
    refine v_iteD (fun _ => ?_) (fun _ => ?_)
    · walk_at "vs"
      exact ⟨v, u.d, st, rfl, rv.on c3, gu, by omega, by omega, hst3, fun v' H' c h1 h2 => q v' H' (k13.trans c) h1 h2⟩
    walk_at "vs"
    refine v_iteD (fun _ => ?_) (fun _ => ?_)
    · walk_at "vs"
      refine ⟨st, 4, rfl, hst3, by omega, fun k4 H4 k40 k41 c4 hst4 => ?_⟩
      have k14 := k13.trans c4
      walk_at "vs"
      refine ⟨st, 1 + k4, l, b, ls, bs, rfl, hst4, by omega, by omega, k14.keep hl (by simpa using lst), k14.keep hb (by simpa using bst), ll, lb, nl, nb, fun v u H5 c5 hst5 rv uo ud => ?_⟩
      have gu := vl_gd (fun z h => nl z h) (fun z h => nb z h) u uo
      exact q v H5 (k14.trans c5) hst5 ⟨_, rp_tq _ _ (gd_sh _ gu) rv⟩
    have ok3 : OkV st H3 v := ⟨_, rp_tq _ _ (gd_sh _ gu) (rv.on c3)⟩
    walk_at "vs"
    refine v_iteD (fun _ => ?_) (fun _ => ?_)
    rotate_left
    · walk_at "vs"
      exact q v H3 k13 hst3 ok3
    walk_at "vs"
    refine ⟨st, 4, rfl, hst3, by omega, fun k4 H4 k40 k41 c4 hst4 => ?_⟩
    have k14 := k13.trans c4
    walk_at "vs"
    refine v_iteD (fun _ => ?_) (fun _ => ?_)
    rotate_left
    · walk_at "vs"
      exact q v H4 k14 hst4 (ok3.on c4)
    walk_at "vs"
    refine ⟨st, 150, rfl, hst4, by omega, fun k5 H5 k50 k51 c5 hst5 => ?_⟩
    have k15 := k14.trans c5
    walk_at "vs"
    refine v_rng1' (by omega) (by omega) ?_
    refine v_for_range (fun i σ H' => ∃ v6 x, σ = [some (.ref st), some (.ref b), some (.ref l), some x, some (.int k3), v6] ∧ Chg [] H5 H' ∧ OkV st H' x) ⟨_, _, rfl, .refl, (ok3.on c4).on c5⟩ ?_ ?_
    · rintro i σ H6 hi ⟨v6, x, rfl, c6, t, ht⟩
      walk_at "vs"
      refine v_newT (line9 (by show 2 ≤ 10000; decide)) fun p H7 np c7 hp => ?_
      walk_at "vs"
      exact ⟨_, _, rfl, c6.trans c7, OkV.tup hp (.cons (.str (by decide)) (.one (ht.on0 c7)))⟩
    · rintro σ H6 ⟨v6, x, rfl, c6, hx⟩
      walk_at "vs"
      exact q x H6 (k15.trans c6.of0) (hst5.on0 c6) hx
abbrev s_law : Stmt := topS 26
theorem sc_law : FnScope ["_law_script", "_law_state_here", "_law_names_here", "_law_boxes", "_law_lists", "_law_thing_here", "_law_some", "_law_part", "_law_name", "_law_texts", "_law_number", "_law_one"] ["_law_script"] (defScope s_law) := ⟨rfl, rfl, rfl, by decide +kernel, rfl, by decide +kernel, by decide +kernel⟩
theorem bw_law : BindW s_law "law" ["_law_script"] := (fun _ _ _ _ _ _ us hl => match us, hl with | [_], _ => rfl)
theorem ok_law (T : Txt K mg) (O__law_state : Own P w K mg base "_law_state" 1 ["_law_cell", "_law_k"] (sp_state)) (O__law_cell_at : Own P w K mg base "_law_cell_at" 1 ["_law_script", "_law_k"] (sp_cell K)) (O__law_names : Own P w K mg base "_law_names" 2 ["_law_state_here", "_law_amount"] (sp_names)) (O__law_next : Own P w K mg base "_law_next" 1 ["_law_state_here", "_law_size"] (sp_next)) (O__law_thing : Own P w K mg base "_law_thing" 12 ["_law_state_here", "_law_boxes", "_law_lists"] (sp_thing)) (O__law_same : Own P w K mg base "_law_same" 1 ["_law_found", "_law_due"] (sp_same)) (O_is_value : Own P w K mg base "is_value" 9 ["thing", "boxes", "lists"] (sp_value4)) (O__law_is_value : Own P w K mg base "_law_is_value" 7 ["_law_thing_here", "_law_boxes", "_law_lists", "_law_deep"] (sp_within 5)) (O_is_name : Own P w K mg base "is_name" 1 ["thing"] (sp_isname)) (O__law_is_name : Own P w K mg base "_law_is_name" 1 ["_law_thing_here"] (sp_isname)) (O_is_number : Own P w K mg base "is_number" 1 ["thing"] (sp_isnum)) (O__law_is_number : Own P w K mg base "_law_is_number" 1 ["_law_thing_here"] (sp_isnum)) : FnW P w K mg base "law" s_law 13 ["_law_script"] (sp_law K) := by
  refine fnW_of (N := ["_law_script", "_law_state_here", "_law_names_here", "_law_boxes", "_law_lists", "_law_thing_here", "_law_some", "_law_part", "_law_name", "_law_texts", "_law_number", "_law_one"]) sc_law (fun vs H Q E h => ?_) (fun f cdv A outer s H vs Q E hr h => ?_)
  · obtain ⟨a, ns, rfl, _⟩ := h; rfl
  · have nd := sc_law.nd
    have hu := L2H.roomH_of hr
    have TK : L2N.Takes (cxOf (L2N.CX P w) P w K mg base ["_law_script", "_law_state_here", "_law_names_here", "_law_boxes", "_law_lists", "_law_thing_here", "_law_some", "_law_part", "_law_name", "_law_texts", "_law_number", "_law_one"] "law" (defScope s_law) f cdv A outer s H E) (fun cls d _ H => E cls d H) := L2N.takes_of rfl rfl rfl rfl
    refine ⟨_, (pss_cons (ps_set (i := 1) nd rfl (by first | exact Or.inl rfl | exact Or.inr rfl) (pe_own O__law_state (by decide) hr rfl (fun σ => L2N.passAt TK σ) (pa_cons (pe_own O__law_cell_at (by decide) hr rfl (fun σ => L2N.passAt TK σ) (pa_cons (pv 0) (pa_cons pe_int pa_nil))) (pa_cons pe_int pa_nil))))
      (pss_cons (ps_set (i := 2) nd rfl (by first | exact Or.inl rfl | exact Or.inr rfl) (pe_own O__law_names (by decide) hr rfl (fun σ => L2N.passAt TK σ) (pa_cons (pv 1) (pa_cons pe_int pa_nil))))
      (pss_cons (ps_set (i := 3) nd rfl (by first | exact Or.inl rfl | exact Or.inr rfl) (pe_slice (sl_uS (K := K)) (pv 2) po_none (po_some (pe_own O__law_next (by decide) hr rfl (fun σ => L2N.passAt TK σ) (pa_cons (pv 1) (pa_cons pe_int pa_nil))))))
      (pss_cons (ps_set (i := 4) nd rfl (by first | exact Or.inl rfl | exact Or.inr rfl) (pe_slice (sl_uS (K := K)) (pe_slice (sl_uS (K := K)) (pv 2) (po_some pe_int) po_none) po_none (po_some (pe_own O__law_next (by decide) hr rfl (fun σ => L2N.passAt TK σ) (pa_cons (pv 1) (pa_cons pe_int pa_nil))))))
      (pss_cons (ps_set (i := 5) nd rfl (by first | exact Or.inl rfl | exact Or.inr rfl) (pe_own O__law_thing (by decide) hr rfl (fun σ => L2N.passAt TK σ) (pa_cons (pe_own O__law_state (by decide) hr rfl (fun σ => L2N.passAt TK σ) (pa_cons (pe_own O__law_cell_at (by decide) hr rfl (fun σ => L2N.passAt TK σ) (pa_cons (pv 0) (pa_cons pe_int pa_nil))) (pa_cons pe_int pa_nil))) (pa_cons (pv 3) (pa_cons (pv 4) pa_nil)))))
      (pss_cons (ps_for (passes_of rfl) rfl (pi_u (K := K) (pe_tup (pa_cons (pv 4) (pa_cons (pe_lst pa_nil) (pa_cons (pv 4) pa_nil))))) (pg_name (i := 6) nd rfl (by first | exact Or.inl rfl | exact Or.inr rfl))
      (pss_one (ps_if (pt_not (pt_u (K := K) (pe_own O__law_same (by decide) hr rfl (fun σ => L2N.passAt TK σ) (pa_cons (pe_own O_is_value (by decide) hr rfl (fun σ => L2N.passAt TK σ) (pa_cons (pv 5) (pa_cons (pe_callTy (call_ulist (K := K) rfl) (by rfl) T.n_list (by decide +kernel) (pa_cons (pv 3) pa_nil)) (pa_cons (pe_callTy (call_ulist (K := K) rfl) (by rfl) T.n_list (by decide +kernel) (pa_cons (pv 6) pa_nil)) pa_nil)))) (pa_cons (pe_own O__law_is_value (by decide) hr rfl (fun σ => L2N.passAt TK σ) (pa_cons (pv 5) (pa_cons (pv 3) (pa_cons (pv 6) (pa_cons pe_int pa_nil))))) pa_nil)))))
      (pss_one (ps_ret pe_bl)) pss_nil)))
      (pss_cons (ps_set (i := 1) nd rfl (by first | exact Or.inl rfl | exact Or.inr rfl) (pe_own O__law_state (by decide) hr rfl (fun σ => L2N.passAt TK σ) (pa_cons (pe_own O__law_cell_at (by decide) hr rfl (fun σ => L2N.passAt TK σ) (pa_cons (pv 0) (pa_cons pe_int pa_nil))) (pa_cons pe_int pa_nil))))
      (pss_cons (ps_set (i := 7) nd rfl (by first | exact Or.inl rfl | exact Or.inr rfl) (pv 5))
      (pss_cons (ps_while (passes_of rfl) (PW.pt (pw_and (pt_u (K := K) (pe_callB (call_uisiT (K := K)) (by rfl) T.n_isinstance (by decide +kernel) (pa_cons (pv 7) (pa_cons (pe_tup (pa_cons (pe_bltn (v := .ty "tuple") (by rfl) T.n_tuple (by decide +kernel) rfl) (pa_cons (pe_bltn (v := .ty "list") (by rfl) T.n_list (by decide +kernel) rfl) pa_nil))) pa_nil)))) (pw_and (pt_cmpR op_gt (pe_callB (call_ulen (K := K)) (by rfl) T.n_len (by decide +kernel) (pa_cons (pv 7) pa_nil)) pe_int (nomark _)) (pw_and1 (pt_cmpR op_gt (pe_own O__law_next (by decide) hr rfl (fun σ => L2N.passAt TK σ) (pa_cons (pv 1) (pa_cons pe_int pa_nil))) pe_int (nomark _))))))
      (pss_one (ps_set (i := 7) nd rfl (by first | exact Or.inl rfl | exact Or.inr rfl) (pe_ix (ix_u (K := K) hu) (pv 7) (pe_own O__law_next (by decide) hr rfl (fun σ => L2N.passAt TK σ) (pa_cons (pv 1) (pa_cons (pe_callB (call_ulen (K := K)) (by rfl) T.n_len (by decide +kernel) (pa_cons (pv 7) pa_nil)) pa_nil))) (fun _ _ => rfl)))))
      (pss_cons (ps_set (i := 8) nd rfl (by first | exact Or.inl rfl | exact Or.inr rfl) (pe_ix (ix_u (K := K) hu) (pv 2) pe_int (fun _ _ => rfl)))
      (pss_cons (ps_set (i := 9) nd rfl (by first | exact Or.inl rfl | exact Or.inr rfl) (pe_lst (pa_cons (pv 8) (pa_cons (pe_op (op_uadd (K := K)) (pv 8) pe_str) (pa_cons (pe_slice (sl_uS (K := K)) (pv 8) (po_some pe_int) po_none) (pa_cons (pe_op (op_uadd (K := K)) (pv 8) pe_str) (pa_cons (pe_bm0 PySem.F.plainAttrs_str PySem.F.slot_str_upper PySem.F.type_str_upper mt_uupper (pv 8)) (pa_cons (pe_op (op_uadd (K := K)) (pv 8) pe_str) pa_nil))))))))
      (pss_cons (ps_set (i := 9) nd rfl (by first | exact Or.inl rfl | exact Or.inr rfl) (pe_op (op_uadd (K := K)) (pv 9) (pe_lst (pa_cons pe_str (pa_cons pe_str (pa_cons (pe_op (op_uadd (K := K)) (pe_slice (sl_uS (K := K)) (pv 8) po_none (po_some (pe_un un_neg pe_int))) pe_str) (pa_cons pe_str pa_nil)))))))
      (pss_cons (ps_set (i := 10) nd rfl (by first | exact Or.inl rfl | exact Or.inr rfl) (pe_ix (ix_u (K := K) hu) (pe_lst (pa_cons pe_int (pa_cons pe_int (pa_cons pe_int (pa_cons (pe_un un_neg pe_int) (pa_cons (pe_op op_mod (pe_own O__law_cell_at (by decide) hr rfl (fun σ => L2N.passAt TK σ) (pa_cons (pv 0) (pa_cons pe_int pa_nil))) pe_int) (pa_cons pe_bl (pa_cons pe_bl (pa_cons (pe_op op_pow pe_int pe_int) pa_nil))))))))) (pe_own O__law_next (by decide) hr rfl (fun σ => L2N.passAt TK σ) (pa_cons (pv 1) (pa_cons pe_int pa_nil))) (fun _ _ => rfl)))
      (pss_cons (ps_for (passes_of rfl) rfl (pi_u (K := K) (pe_tup (pa_cons (pv 7) (pa_cons (pe_ix (ix_u (K := K) hu) (pv 9) (pe_own O__law_next (by decide) hr rfl (fun σ => L2N.passAt TK σ) (pa_cons (pv 1) (pa_cons pe_int pa_nil))) (fun _ _ => rfl)) (pa_cons (pv 10) (pa_cons (pv 5) (pa_cons pe_non pa_nil))))))) (pg_name (i := 11) nd rfl (by first | exact Or.inl rfl | exact Or.inr rfl))
      (pss_one (ps_if (PW.pt (pw_or (pt_not (pt_u (K := K) (pe_own O__law_same (by decide) hr rfl (fun σ => L2N.passAt TK σ) (pa_cons (pe_own O_is_name (by decide) hr rfl (fun σ => L2N.passAt TK σ) (pa_cons (pv 11) pa_nil)) (pa_cons (pe_own O__law_is_name (by decide) hr rfl (fun σ => L2N.passAt TK σ) (pa_cons (pv 11) pa_nil)) pa_nil))))) (pw_or1 (pt_not (pt_u (K := K) (pe_own O__law_same (by decide) hr rfl (fun σ => L2N.passAt TK σ) (pa_cons (pe_own O_is_number (by decide) hr rfl (fun σ => L2N.passAt TK σ) (pa_cons (pv 11) pa_nil)) (pa_cons (pe_own O__law_is_number (by decide) hr rfl (fun σ => L2N.passAt TK σ) (pa_cons (pv 11) pa_nil)) pa_nil))))))))
      (pss_one (ps_ret pe_bl)) pss_nil)))
      (pss_one (ps_ret pe_bl)))))))))))))))), ?_⟩
    clear nd
    obtain ⟨a, ns, rfl, hS, hl, q⟩ := h
    walk_at "vs"
    refine ⟨a, ns, 0, rfl, hS, hl, by omega, fun c0 => ?_⟩
    walk_at "vs"
    refine ⟨c0, 1, rfl, fun st H1 nst c1 hst => ?_⟩
    walk_at "vs"
    refine ⟨st, 6, rfl, hst, by omega, by omega, fun na zs H2 nna c2 hst2 hna hzl hzn hzd => ?_⟩
    walk_at "vs"
    refine ⟨st, 4, rfl, hst2, by omega, fun k3 H3 k30 k31 c3 hst3 => ?_⟩
    have nast : na ≠ st := hst2.ne_strs hna
    have na3 := c3.keep hna (by simpa using nast)
    walk_at "vs"
    refine .inl (v_sl_strs (SqL.of na3) fun ba H4 nba c4 hba => ?_)
    walk_at "vs"
    have na4 := c4.at na3
    refine .inl (v_sl_strs (SqL.of na4) fun la H5 nla c5 hla => ?_)
    walk_at "vs"
    refine ⟨st, 4, rfl, (hst3.on0 c4).on0 c5, by omega, fun k6 H6 k60 k61 c6 hst6 => ?_⟩
    walk_at "vs"
    have last : la ≠ st := (hst3.on0 c4).neN nla
    have bast : ba ≠ st := hst3.neN nba
    have la6 := c6.keep hla (by simpa using last)
    have ba6 := c6.keep (c5.at hba) (by simpa using bast)
    have na6 := c6.keep (c5.at na4) (by simpa using nast)
    refine .inl (v_sl_strs (SqL.of la6) fun lb H7 nlb c7 hlb => ?_)
    walk_at "vs"
    generalize hbs : cutL zs none (some k3) = bs at hba ba6
    generalize hls : cutL (cutL zs (some 3) none) none (some k6) = ls at hlb
    have bsub : ∀ z ∈ bs, z ∈ zs := fun z h => cutL_mem (by rw [hbs]; exact h)
    have lsub : ∀ z ∈ ls, z ∈ zs := fun z h => cutL_mem (cutL_mem (by rw [hls]; exact h))
    have bl : bs.length ≤ 26 := by rw [← hbs]; have := cutL_len zs none (some k3); omega
    have ll : ls.length ≤ 26 := by rw [← hls]; have h1 := cutL_len (cutL zs (some 3) none) none (some k6); have h2 := cutL_len zs (some 3) none; omega
    have k17 : Chg [st] H1 H7 := (((c2.trans c3).trans (c4.trans c5).of0).trans c6).trans c7.of0
    have nst0 : ∀ l ∈ [st], H l = none := by simp [nst]
    have hS7 : SqL K H7 a (List.map V.int ns) := seqL_fresh hS (c1.of0.trans k17) nst0
    refine ⟨a, ns, 1, rfl, hS7, hl, by omega, fun c1' => ?_⟩
    walk_at "vs"
    refine ⟨c1', 2, rfl, fun s2 H8 ns2 c8 hs2 => ?_⟩
    walk_at "vs"
    have ba8 := (c7.trans c8).at ba6
    have lb8 := c8.at hlb
    refine ⟨s2, ba, lb, bs, ls, rfl, hs2, ba8, lb8, bl, ll, fun z h => hzn z (bsub z h), fun z h => hzn z (lsub z h), fun v H9 c9 hs9 hv => ?_⟩
    have nba2 : ba ≠ s2 := by rintro rfl; rw [c7.at ba6] at ns2; cases ns2
    have nlb2 : lb ≠ s2 := by rintro rfl; rw [hlb] at ns2; cases ns2
    have nna2 : na ≠ s2 := by rintro rfl; rw [c7.at na6] at ns2; cases ns2
    have ba9 := c9.keep ba8 (by simpa using nba2)
    have lb9 := c9.keep lb8 (by simpa using nlb2)
    have na9 := c9.keep ((c7.trans c8).at na6) (by simpa using nna2)
    obtain ⟨t, ht⟩ := hv
    walk_at "vs"
    refine v_newL (line9 (by show 0 ≤ 10000; decide)) fun em H10 nem c10 hem => ?_
    walk_at "vs"
    refine v_newT (line9 (by show 3 ≤ 10000; decide)) fun tp H11 ntp c11 htp => ?_
    have k11 := c10.trans c11
    refine v_it_t (SqT.of htp) ?_
    have nlist : ∀ x ∈ [V.ref lb, V.ref em, V.ref lb], ∃ l zs', x = V.ref l ∧ H11 l = some (.lst (List.map V.str zs')) := by
      intro x hx
      simp only [List.mem_cons, List.not_mem_nil, or_false] at hx
      rcases hx with rfl | rfl | rfl
      · exact ⟨_, _, rfl, k11.at lb9⟩
      · exact ⟨_, [], rfl, c11.at hem⟩
      · exact ⟨_, _, rfl, k11.at lb9⟩
    refine v_for_tup (xs := [.ref lb, .ref em, .ref lb]) (fun i σ H' => (∃ v6, σ = [some (.ref a), some (.ref st), some (.ref na), some (.ref ba), some (.ref lb), some v, v6, none, none, none, none, none]) ∧ Chg [] H11 H') ⟨⟨_, rfl⟩, .refl⟩ (fun i σ H' _ ⟨_, c⟩ => SqT.of (c.tup htp)) ?_ ?_
    · rintro i x σ H12 hx ⟨⟨v6, rfl⟩, c12⟩
      obtain ⟨l, zs', rfl, hzs'⟩ := nlist x (List.mem_of_getElem? hx)
      have k12 := k11.trans c12
      walk_at "vs"
      refine v_list_l (SqL.of (k12.at ba9)) fun b1 H13 nb1 c13 hb1 => ?_
      walk_at "vs"
      refine v_list_l (SqL.of (c13.at (c12.at hzs'))) fun b2 H14 nb2 c14 hb2 => ?_
      walk_at "vs"
      have k14 := (k12.trans c13).trans c14
      refine ⟨v, t, _, b1, b2, bs, zs', rfl, ht.on0 k14, c14.at hb1, hb2, fun H15 c15 => ?_⟩
      walk_at "vs"
      have k15 := k14.trans c15
      refine ⟨v, t, _, ba, l, bs, zs', 4, rfl, by omega, ht.on0 k15, k15.at ba9, (((c12.trans c13).trans c14).trans c15).at hzs', fun H16 c16 => ?_⟩
      walk_at "vs"
      refine ⟨_, _, rfl, ?_⟩
      rw [beq_self_eq_true]
      walk_at "vs"
      exact ⟨⟨_, rfl⟩, (((c12.trans c13).trans c14).trans c15).trans c16⟩
    rintro σ H12 ⟨⟨v6, rfl⟩, c12⟩
    have k12 := k11.trans c12
    walk_at "vs"
    have nn : ∀ l ∈ [st, s2], H l = none := by
      intro l hl
      simp only [List.mem_cons, List.not_mem_nil, or_false] at hl
      rcases hl with rfl | rfl
      · exact nst
      · exact c1.dom (k17.dom ns2)
    have k0 : Chg [st, s2] H H12 := ((c1.of0.trans (k17.mono (by simp))).trans c8.of0).trans ((c9.mono (by simp)).trans k12.of0)
    refine ⟨a, ns, 2, rfl, seqL_fresh hS k0 nn, hl, by omega, fun c2' => ?_⟩
    walk_at "vs"
    refine ⟨c2', 3, rfl, fun s3 H13 ns3 c13 hs3 => ?_⟩
    walk_at "vs"
    have hsub0 : ∀ b o, H12 b = some o → b ≠ s3 := by
      rintro b o hb rfl
      rw [ns3] at hb; cases hb
    have ht12 := tq_and (G := fun b => b ≠ s3) (ht.on0 k12) hsub0
    generalize hF : (fun b : Addr => b ≠ s2 ∧ b ≠ s3) = F at ht12
    have nF : ∀ l ∈ [s3], ¬ F l := by rw [← hF]; simp
    have na12 := k12.at na9
    have nna3 : na ≠ s3 := hsub0 _ _ na12
    refine v_join (fun σ H' => ∃ (x : V) (u : Th), σ = [some (.ref a), some (.ref s3), some (.ref na), some (.ref ba), some (.ref lb), some v, v6, some x, none, none, none, none] ∧ Tq F H' x u ∧ Chg [s3] H12 H' ∧ StAt H' s3) ?_ ?_
    rotate_left
    · intro U hU
      refine ⟨fun m σ H' => ∃ (x : V) (u : Th), u.sz = m ∧ σ = [some (.ref a), some (.ref s3), some (.ref na), some (.ref ba), some (.ref lb), some v, v6, some x, none, none, none, none] ∧ Tq F H' x u ∧ Chg [s3] H12 H' ∧ StAt H' s3,
        ⟨_, v, t, rfl, rfl, ht12.on0 c13, c13.of0, hs3⟩, ?_⟩
      rintro m σ H14 ⟨x, u, rfl, rfl, hx, c14, hs14⟩
      walk_at "vs"
      refine v_newT (line9 (by show 2 ≤ 10000; decide)) fun p H15 np c15 hp => ?_
      walk_at "vs"
      refine v_isi_tl (hx.on0 c15) hp ?_
      cases hx with
      | non => walk_at "vs"; exact hU _ _ ⟨_, _, rfl, .non, c14.trans c15.of0, hs14.on0 c15⟩
      | bl i => walk_at "vs"; exact hU _ _ ⟨_, _, rfl, .bl i, c14.trans c15.of0, hs14.on0 c15⟩
      | int i => walk_at "vs"; exact hU _ _ ⟨_, _, rfl, .int i, c14.trans c15.of0, hs14.on0 c15⟩
      | str hz => walk_at "vs"; exact hU _ _ ⟨_, _, rfl, .str hz, c14.trans c15.of0, hs14.on0 c15⟩
      | dic f e => walk_at "vs"; exact hU _ _ ⟨_, _, rfl, .dic f (c15.at e), c14.trans c15.of0, hs14.on0 c15⟩
      | tup e r =>
        rename_i b ys us
        have hyl := r.length
        walk_at "vs"
        refine v_iteT ?_
        walk_at "vs"
        refine v_len_t (SqT.of (c15.tup e)) ?_
        walk_at "vs"
        refine v_iteD (fun h0 => ?_) (fun _ => ?_)
        · walk_at "vs"
          refine ⟨s3, 5, rfl, hs14.on0 c15, by omega, fun r1 H16 r10 r11 c16 hs16 => ?_⟩
          have k16 := c15.of0.trans c16
          walk_at "vs"
          refine v_iteD (fun _ => ?_) (fun _ => ?_)
          · refine ⟨_, fun _ _ h => h, ?_⟩
            walk_at "vs"
            refine v_len_t (SqT.of (k16.tup e)) ?_
            walk_at "vs"
            refine ⟨s3, _, rfl, hs16, by omega, fun r2 H17 r20 r21 c17 hs17 => ?_⟩
            have k17 := k16.trans c17
            refine v_ix_tany (SqT.of (k17.tup e)) r20 (by simpa using r21) fun y hy => ?_
            obtain ⟨w1, hw1, ry⟩ := r.get hy
            walk_at "vs"
            have := Th.sz_mem (List.mem_of_getElem? hw1)
            exact ⟨_, by rw [Th.sz]; omega, y, w1, rfl, rfl, ry.on k17 nF, c14.trans k17, hs17⟩
          · walk_at "vs"
            exact hU _ _ ⟨_, _, rfl, .tup (k16.tup e) (r.on k16 nF), c14.trans k16, hs16⟩
        · walk_at "vs"
          exact hU _ _ ⟨_, _, rfl, .tup (c15.tup e) (r.on0 c15), c14.trans c15.of0, hs14.on0 c15⟩
      | lst f e r =>
        rename_i b ys us
        have hyl := r.length
        have nb3 : b ∉ [s3] := by rintro h; exact nF _ h f
        walk_at "vs"
        refine v_iteT ?_
        walk_at "vs"
        refine v_len_l (SqL.of (c15.at e)) ?_
        walk_at "vs"
        refine v_iteD (fun h0 => ?_) (fun _ => ?_)
        · walk_at "vs"
          refine ⟨s3, 5, rfl, hs14.on0 c15, by omega, fun r1 H16 r10 r11 c16 hs16 => ?_⟩
          have k16 := c15.of0.trans c16
          walk_at "vs"
          refine v_iteD (fun _ => ?_) (fun _ => ?_)
          · refine ⟨_, fun _ _ h => h, ?_⟩
            walk_at "vs"
            refine v_len_l (SqL.of (k16.keep e nb3)) ?_
            walk_at "vs"
            refine ⟨s3, _, rfl, hs16, by omega, fun r2 H17 r20 r21 c17 hs17 => ?_⟩
            have k17 := k16.trans c17
            refine v_ix_lany (SqL.of (k17.keep e nb3)) r20 (by simpa using r21) fun y hy => ?_
            obtain ⟨w1, hw1, ry⟩ := r.get hy
            walk_at "vs"
            have := Th.sz_mem (List.mem_of_getElem? hw1)
            exact ⟨_, by rw [Th.sz]; omega, y, w1, rfl, rfl, ry.on k17 nF, c14.trans k17, hs17⟩
          · walk_at "vs"
            exact hU _ _ ⟨_, _, rfl, .lst f (k16.keep e nb3) (r.on k16 nF), c14.trans k16, hs16⟩
        · walk_at "vs"
          exact hU _ _ ⟨_, _, rfl, .lst f (c15.at e) (r.on0 c15), c14.trans c15.of0, hs14.on0 c15⟩
    rintro σ H14 ⟨x, u, rfl, hx, c14, hs14⟩
    walk_at "vs"
    have na14 := c14.keep na12 (by simpa using nna3)
    obtain ⟨z, zr, rfl⟩ : ∃ z zr, zs = z :: zr := by
      cases zs with
      | nil => simp at hzl
      | cons z zr => exact ⟨z, zr, rfl⟩
    have hz := isNm_len (hzn z List.mem_cons_self)
    have hup := PyProof.Rows.len_upper z
    refine v_ix_l (v := .str z) (SqL.of na14) (atI_0 _ _) ?_
    walk_at "vs"
    refine v_add_ss (line9 (by show z.length + 1 ≤ 10000; omega)) ?_
    walk_at "vs"
    refine v_slS (line9 (by omega)) ?_
    walk_at "vs"
    refine v_add_ss (line9 (by show z.length + 1 ≤ 10000; omega)) ?_
    walk_at "vs"
    refine v_upper_s (by omega) ?_
    walk_at "vs"
    refine v_add_ss (line9 (by show z.length + 1 ≤ 10000; omega)) ?_
    walk_at "vs"
    refine v_newL (line9 (by show 6 ≤ 10000; decide)) fun p1 H15 n1 c15 e1 => ?_
    walk_at "vs"
    refine v_slS (line9 (by omega)) ?_
    have hc1 := cutS_len z (some 1) none
    have hc2 := cutS_len z none (some (-1))
    refine v_add_ss (line9 (by show (cutS z none (some (-1))).length + 1 ≤ 10000; omega)) ?_
    walk_at "vs"
    refine v_newL (line9 (by show 4 ≤ 10000; decide)) fun p2 H16 n2 c16 e2 => ?_
    walk_at "vs"
    refine v_add_ll (c16.at e1) e2 (line9 (by show 10 ≤ 10000; decide)) fun p3 H17 n3 c17 e3 => ?_
    walk_at "vs"
    have k17 : Chg [] H14 H17 := (c15.trans c16).trans c17
    have nn3 : ∀ l ∈ [st, s2, s3], H l = none := by
      intro l hl
      simp only [List.mem_cons, List.not_mem_nil, or_false] at hl
      rcases hl with rfl | rfl | rfl
      · exact nst
      · exact nn _ (by simp)
      · exact k0.dom ns3
    have kk : Chg [st, s2, s3] H H17 := (k0.mono (by simp)).trans ((c14.trans k17.of0).mono (by simp))
    have hS17 := seqL_fresh hS kk nn3
    refine ⟨a, ns, 3, rfl, hS17, hl, by omega, fun c3' => ?_⟩
    walk_at "vs"
    refine v_newL (line9 (by show 8 ≤ 10000; decide)) fun p4 H18 n4 c18 e4 => ?_
    walk_at "vs"
    have hs17 := hs14.on0 k17
    refine ⟨s3, 8, rfl, hs17.on0 c18, by omega, fun r5 H19 r50 r51 c19 hs19 => ?_⟩
    refine v_ix_lany (SqL.of (c19.keep e4 (by simpa using hs17.neN n4))) r50 (by show r5 < ((8 : Nat) : Int); omega) fun nv hnv => ?_
    have hn19 : ∀ H', ∃ tn, Tq F H' nv tn := by
      intro H'
      have hm := List.mem_of_getElem? hnv
      simp only [List.mem_cons, List.not_mem_nil, or_false] at hm
      rcases hm with rfl | rfl | rfl | rfl | rfl | rfl | rfl | rfl
      · exact ⟨_, .int _⟩
      · exact ⟨_, .int _⟩
      · exact ⟨_, .int _⟩
      · exact ⟨_, .int _⟩
      · exact ⟨_, .int _⟩
      · exact ⟨_, .bl _⟩
      · exact ⟨_, .bl _⟩
      · exact ⟨_, .int _⟩
    walk_at "vs"
    refine ⟨s3, 10, rfl, hs19, by omega, fun r6 H20 r60 r61 c20 hs20 => ?_⟩
    have p3s : p3 ≠ s3 := (hs14.on0 (c15.trans c16)).neN n3
    have e20 := c20.keep (c19.keep (c18.at e3) (by simpa using p3s)) (by simpa using p3s)
    refine v_ix_lany (SqL.of e20) r60 (by show r6 < ((10 : Nat) : Int); omega) fun tv htv => ?_
    have ht20 : ∀ H', ∃ tn, Tq F H' tv tn := by
      intro H'
      have hm := List.mem_of_getElem? htv
      have la : ∀ x y : Str, (x ++ y).length = x.length + y.length := Str.length_append
      simp only [List.cons_append, List.nil_append, List.mem_cons, List.not_mem_nil, or_false] at hm
      rcases hm with rfl | rfl | rfl | rfl | rfl | rfl | rfl | rfl | rfl | rfl
      · exact ⟨_, .str (by omega)⟩
      · exact ⟨_, .str (by rw [la]; show z.length + 1 ≤ 1000; omega)⟩
      · exact ⟨_, .str (by omega)⟩
      · exact ⟨_, .str (by rw [la]; show z.length + 1 ≤ 1000; omega)⟩
      · exact ⟨_, .str (by omega)⟩
      · exact ⟨_, .str (by rw [la]; show z.length + 1 ≤ 1000; omega)⟩
      · exact ⟨_, .str (by decide)⟩
      · exact ⟨_, .str (by decide)⟩
      · exact ⟨_, .str (by rw [la]; show (cutS z none (some (-1))).length + 1 ≤ 1000; omega)⟩
      · exact ⟨_, .str (by decide)⟩
    walk_at "vs"
    refine v_newT (line9 (by show 5 ≤ 10000; decide)) fun p5 H21 n5 c21 e5 => ?_
    have k1421 : Chg [s3] H14 H21 := (((k17.of0.trans c18.of0).trans c19).trans c20).trans c21.of0
    have ht21 := ht12.on (c14.trans k1421) nF
    have hx21 := hx.on k1421 nF
    refine v_it_t (SqT.of e5) ?_
    refine v_for_tup (xs := [x, tv, nv, v, .non]) (fun i σ H' => (∃ v11, σ = [some (.ref a), some (.ref s3), some (.ref na), some (.ref ba), some (.ref lb), some v, v6, some x, some (.str z), some (.ref p3), some nv, v11]) ∧ Chg [] H21 H') ⟨⟨_, rfl⟩, .refl⟩ (fun i σ H' _ ⟨_, c⟩ => SqT.of (c.tup e5)) ?_ ?_
    · rintro i y σ H22 hy ⟨⟨v11, rfl⟩, c22⟩
      have hall : ∃ tn, Tq F H22 y tn := by
        have hm := List.mem_of_getElem? hy
        simp only [List.mem_cons, List.not_mem_nil, or_false] at hm
        rcases hm with rfl | rfl | rfl | rfl | rfl
        · exact ⟨_, hx21.on0 c22⟩
        · exact ht20 _
        · exact hn19 _
        · exact ⟨_, ht21.on0 c22⟩
        · exact ⟨_, .non⟩
      obtain ⟨tn, hy2⟩ := hall
      walk_at "vs"
      refine ⟨y, tn, F, rfl, hy2, fun H23 c23 => ?_⟩
      walk_at "vs"
      refine ⟨y, tn, F, rfl, hy2.on0 c23, fun H24 c24 => ?_⟩
      walk_at "vs"
      refine ⟨_, _, rfl, ?_⟩
      rw [beq_self_eq_true]
      walk_at "vs"
      have k24 := c23.trans c24
      refine ⟨y, tn, F, rfl, hy2.on0 k24, fun H25 c25 => ?_⟩
      walk_at "vs"
      refine ⟨y, tn, F, rfl, (hy2.on0 k24).on0 c25, fun H26 c26 => ?_⟩
      walk_at "vs"
      refine ⟨_, _, rfl, ?_⟩
      rw [beq_self_eq_true]
      walk_at "vs"
      exact ⟨⟨_, rfl⟩, ((c22.trans k24).trans c25).trans c26⟩
    rintro σ H22 ⟨⟨v11, rfl⟩, c22⟩
    walk_at "vs"
    exact q _
end
theorem all_mk {P : Program} {w : World} {K : PySem.W.Frag} {h : Heap} {mg : Str → Option Value} {fa : Addr} (X : K.In h) (G : h.Ns mainGlobals mg) (hfa : mg "law" = some (.ref fa))
    {F0 : Addr} {oc0 : Value} {od0 : Option Addr} {sl0 : Array (Option Value)} {kV0 dc0 pm0 : Value} {an0 : Option Addr} {cd0 ct0 : Value}
    {F1 : Addr} {oc1 : Value} {od1 : Option Addr} {sl1 : Array (Option Value)} {kV1 dc1 pm1 : Value} {an1 : Option Addr} {cd1 ct1 : Value}
    {F2 : Addr} {oc2 : Value} {od2 : Option Addr} {sl2 : Array (Option Value)} {kV2 dc2 pm2 : Value} {an2 : Option Addr} {cd2 ct2 : Value}
    {F3 : Addr} {oc3 : Value} {od3 : Option Addr} {sl3 : Array (Option Value)} {kV3 dc3 pm3 : Value} {an3 : Option Addr} {cd3 ct3 : Value}
    {F4 : Addr} {oc4 : Value} {od4 : Option Addr} {sl4 : Array (Option Value)} {kV4 dc4 pm4 : Value} {an4 : Option Addr} {cd4 ct4 : Value}
    {F5 : Addr} {oc5 : Value} {od5 : Option Addr} {sl5 : Array (Option Value)} {kV5 dc5 pm5 : Value} {an5 : Option Addr} {cd5 ct5 : Value}
    {F6 : Addr} {oc6 : Value} {od6 : Option Addr} {sl6 : Array (Option Value)} {kV6 dc6 pm6 : Value} {an6 : Option Addr} {cd6 ct6 : Value}
    {F7 : Addr} {oc7 : Value} {od7 : Option Addr} {sl7 : Array (Option Value)} {kV7 dc7 pm7 : Value} {an7 : Option Addr} {cd7 ct7 : Value}
    {F8 : Addr} {oc8 : Value} {od8 : Option Addr} {sl8 : Array (Option Value)} {kV8 dc8 pm8 : Value} {an8 : Option Addr} {cd8 ct8 : Value}
    {F9 : Addr} {oc9 : Value} {od9 : Option Addr} {sl9 : Array (Option Value)} {kV9 dc9 pm9 : Value} {an9 : Option Addr} {cd9 ct9 : Value}
    {F10 : Addr} {oc10 : Value} {od10 : Option Addr} {sl10 : Array (Option Value)} {kV10 dc10 pm10 : Value} {an10 : Option Addr} {cd10 ct10 : Value}
    {F11 : Addr} {oc11 : Value} {od11 : Option Addr} {sl11 : Array (Option Value)} {kV11 dc11 pm11 : Value} {an11 : Option Addr} {cd11 ct11 : Value}
    {F12 : Addr} {oc12 : Value} {od12 : Option Addr} {sl12 : Array (Option Value)} {kV12 dc12 pm12 : Value} {an12 : Option Addr} {cd12 ct12 : Value}
    {F13 : Addr} {oc13 : Value} {od13 : Option Addr} {sl13 : Array (Option Value)} {kV13 dc13 pm13 : Value} {an13 : Option Addr} {cd13 ct13 : Value}
    {F14 : Addr} {oc14 : Value} {od14 : Option Addr} {sl14 : Array (Option Value)} {kV14 dc14 pm14 : Value} {an14 : Option Addr} {cd14 ct14 : Value}
    {F15 : Addr} {oc15 : Value} {od15 : Option Addr} {sl15 : Array (Option Value)} {kV15 dc15 pm15 : Value} {an15 : Option Addr} {cd15 ct15 : Value}
    {F16 : Addr} {oc16 : Value} {od16 : Option Addr} {sl16 : Array (Option Value)} {kV16 dc16 pm16 : Value} {an16 : Option Addr} {cd16 ct16 : Value}
    {F17 : Addr} {oc17 : Value} {od17 : Option Addr} {sl17 : Array (Option Value)} {kV17 dc17 pm17 : Value} {an17 : Option Addr} {cd17 ct17 : Value}
    {F18 : Addr} {oc18 : Value} {od18 : Option Addr} {sl18 : Array (Option Value)} {kV18 dc18 pm18 : Value} {an18 : Option Addr} {cd18 ct18 : Value}
    {F19 : Addr} {oc19 : Value} {od19 : Option Addr} {sl19 : Array (Option Value)} {kV19 dc19 pm19 : Value} {an19 : Option Addr} {cd19 ct19 : Value}
    {F20 : Addr} {oc20 : Value} {od20 : Option Addr} {sl20 : Array (Option Value)} {kV20 dc20 pm20 : Value} {an20 : Option Addr} {cd20 ct20 : Value}
    {tc_LONGEST_NAME : Tok}
    {tc_LETTERS : Tok}
    {tc_GREATEST : Tok}
    {tc_DEEPEST : Tok}
    (a0 : PySem.W.nsIn K mainGlobals "_law_cell_at" = some (some (.ref F0)))
    (l0 : K.lookup F0 = some ⟨oc0, od0, .func (PySem.W.fnOf "_law_cell_at" "_law_cell_at" (defArgs s__law_cell_at) (defBody s__law_cell_at) (defScope s__law_cell_at) .none kV0 dc0 pm0 an0 cd0 ct0), sl0⟩)
    (c0 : PySem.W.codeIn K cd0 "_law_cell_at" = true)
    (k0 : PySem.W.keepIn K (.ref F0) = true)
    (a1 : PySem.W.nsIn K mainGlobals "_law_state" = some (some (.ref F1)))
    (l1 : K.lookup F1 = some ⟨oc1, od1, .func (PySem.W.fnOf "_law_state" "_law_state" (defArgs s__law_state) (defBody s__law_state) (defScope s__law_state) .none kV1 dc1 pm1 an1 cd1 ct1), sl1⟩)
    (c1 : PySem.W.codeIn K cd1 "_law_state" = true)
    (k1 : PySem.W.keepIn K (.ref F1) = true)
    (a2 : PySem.W.nsIn K mainGlobals "_law_next" = some (some (.ref F2)))
    (l2 : K.lookup F2 = some ⟨oc2, od2, .func (PySem.W.fnOf "_law_next" "_law_next" (defArgs s__law_next) (defBody s__law_next) (defScope s__law_next) .none kV2 dc2 pm2 an2 cd2 ct2), sl2⟩)
    (c2 : PySem.W.codeIn K cd2 "_law_next" = true)
    (k2 : PySem.W.keepIn K (.ref F2) = true)
    (a3 : PySem.W.nsIn K mainGlobals "_law_names" = some (some (.ref F3)))
    (l3 : K.lookup F3 = some ⟨oc3, od3, .func (PySem.W.fnOf "_law_names" "_law_names" (defArgs s__law_names) (defBody s__law_names) (defScope s__law_names) .none kV3 dc3 pm3 an3 cd3 ct3), sl3⟩)
    (c3 : PySem.W.codeIn K cd3 "_law_names" = true)
    (k3 : PySem.W.keepIn K (.ref F3) = true)
    (a4 : PySem.W.nsIn K mainGlobals "is_name" = some (some (.ref F4)))
    (l4 : K.lookup F4 = some ⟨oc4, od4, .func (PySem.W.fnOf "is_name" "is_name" (defArgs s_is_name) (defBody s_is_name) (defScope s_is_name) .none kV4 dc4 pm4 an4 cd4 ct4), sl4⟩)
    (c4 : PySem.W.codeIn K cd4 "is_name" = true)
    (k4 : PySem.W.keepIn K (.ref F4) = true)
    (a5 : PySem.W.nsIn K mainGlobals "is_number" = some (some (.ref F5)))
    (l5 : K.lookup F5 = some ⟨oc5, od5, .func (PySem.W.fnOf "is_number" "is_number" (defArgs s_is_number) (defBody s_is_number) (defScope s_is_number) .none kV5 dc5 pm5 an5 cd5 ct5), sl5⟩)
    (c5 : PySem.W.codeIn K cd5 "is_number" = true)
    (k5 : PySem.W.keepIn K (.ref F5) = true)
    (a6 : PySem.W.nsIn K mainGlobals "is_one_of" = some (some (.ref F6)))
    (l6 : K.lookup F6 = some ⟨oc6, od6, .func (PySem.W.fnOf "is_one_of" "is_one_of" (defArgs s_is_one_of) (defBody s_is_one_of) (defScope s_is_one_of) .none kV6 dc6 pm6 an6 cd6 ct6), sl6⟩)
    (c6 : PySem.W.codeIn K cd6 "is_one_of" = true)
    (k6 : PySem.W.keepIn K (.ref F6) = true)
    (a7 : PySem.W.nsIn K mainGlobals "values_in" = some (some (.ref F7)))
    (l7 : K.lookup F7 = some ⟨oc7, od7, .func (PySem.W.fnOf "values_in" "values_in" (defArgs s_values_in) (defBody s_values_in) (defScope s_values_in) .none kV7 dc7 pm7 an7 cd7 ct7), sl7⟩)
    (c7 : PySem.W.codeIn K cd7 "values_in" = true)
    (k7 : PySem.W.keepIn K (.ref F7) = true)
    (a8 : PySem.W.nsIn K mainGlobals "is_plain" = some (some (.ref F8)))
    (l8 : K.lookup F8 = some ⟨oc8, od8, .func (PySem.W.fnOf "is_plain" "is_plain" (defArgs s_is_plain) (defBody s_is_plain) (defScope s_is_plain) .none kV8 dc8 pm8 an8 cd8 ct8), sl8⟩)
    (c8 : PySem.W.codeIn K cd8 "is_plain" = true)
    (k8 : PySem.W.keepIn K (.ref F8) = true)
    (a9 : PySem.W.nsIn K mainGlobals "is_within" = some (some (.ref F9)))
    (l9 : K.lookup F9 = some ⟨oc9, od9, .func (PySem.W.fnOf "is_within" "is_within" (defArgs s_is_within) (defBody s_is_within) (defScope s_is_within) .none kV9 dc9 pm9 an9 cd9 ct9), sl9⟩)
    (c9 : PySem.W.codeIn K cd9 "is_within" = true)
    (k9 : PySem.W.keepIn K (.ref F9) = true)
    (a10 : PySem.W.nsIn K mainGlobals "is_value" = some (some (.ref F10)))
    (l10 : K.lookup F10 = some ⟨oc10, od10, .func (PySem.W.fnOf "is_value" "is_value" (defArgs s_is_value) (defBody s_is_value) (defScope s_is_value) .none kV10 dc10 pm10 an10 cd10 ct10), sl10⟩)
    (c10 : PySem.W.codeIn K cd10 "is_value" = true)
    (k10 : PySem.W.keepIn K (.ref F10) = true)
    (a11 : PySem.W.nsIn K mainGlobals "_law_is_name" = some (some (.ref F11)))
    (l11 : K.lookup F11 = some ⟨oc11, od11, .func (PySem.W.fnOf "_law_is_name" "_law_is_name" (defArgs s__law_is_name) (defBody s__law_is_name) (defScope s__law_is_name) .none kV11 dc11 pm11 an11 cd11 ct11), sl11⟩)
    (c11 : PySem.W.codeIn K cd11 "_law_is_name" = true)
    (k11 : PySem.W.keepIn K (.ref F11) = true)
    (a12 : PySem.W.nsIn K mainGlobals "_law_is_number" = some (some (.ref F12)))
    (l12 : K.lookup F12 = some ⟨oc12, od12, .func (PySem.W.fnOf "_law_is_number" "_law_is_number" (defArgs s__law_is_number) (defBody s__law_is_number) (defScope s__law_is_number) .none kV12 dc12 pm12 an12 cd12 ct12), sl12⟩)
    (c12 : PySem.W.codeIn K cd12 "_law_is_number" = true)
    (k12 : PySem.W.keepIn K (.ref F12) = true)
    (a13 : PySem.W.nsIn K mainGlobals "_law_among" = some (some (.ref F13)))
    (l13 : K.lookup F13 = some ⟨oc13, od13, .func (PySem.W.fnOf "_law_among" "_law_among" (defArgs s__law_among) (defBody s__law_among) (defScope s__law_among) .none kV13 dc13 pm13 an13 cd13 ct13), sl13⟩)
    (c13 : PySem.W.codeIn K cd13 "_law_among" = true)
    (k13 : PySem.W.keepIn K (.ref F13) = true)
    (a14 : PySem.W.nsIn K mainGlobals "_law_is_value" = some (some (.ref F14)))
    (l14 : K.lookup F14 = some ⟨oc14, od14, .func (PySem.W.fnOf "_law_is_value" "_law_is_value" (defArgs s__law_is_value) (defBody s__law_is_value) (defScope s__law_is_value) .none kV14 dc14 pm14 an14 cd14 ct14), sl14⟩)
    (c14 : PySem.W.codeIn K cd14 "_law_is_value" = true)
    (k14 : PySem.W.keepIn K (.ref F14) = true)
    (a15 : PySem.W.nsIn K mainGlobals "_law_value" = some (some (.ref F15)))
    (l15 : K.lookup F15 = some ⟨oc15, od15, .func (PySem.W.fnOf "_law_value" "_law_value" (defArgs s__law_value) (defBody s__law_value) (defScope s__law_value) .none kV15 dc15 pm15 an15 cd15 ct15), sl15⟩)
    (c15 : PySem.W.codeIn K cd15 "_law_value" = true)
    (k15 : PySem.W.keepIn K (.ref F15) = true)
    (a16 : PySem.W.nsIn K mainGlobals "_law_odd" = some (some (.ref F16)))
    (l16 : K.lookup F16 = some ⟨oc16, od16, .func (PySem.W.fnOf "_law_odd" "_law_odd" (defArgs s__law_odd) (defBody s__law_odd) (defScope s__law_odd) .none kV16 dc16 pm16 an16 cd16 ct16), sl16⟩)
    (c16 : PySem.W.codeIn K cd16 "_law_odd" = true)
    (k16 : PySem.W.keepIn K (.ref F16) = true)
    (a17 : PySem.W.nsIn K mainGlobals "_law_spoilt" = some (some (.ref F17)))
    (l17 : K.lookup F17 = some ⟨oc17, od17, .func (PySem.W.fnOf "_law_spoilt" "_law_spoilt" (defArgs s__law_spoilt) (defBody s__law_spoilt) (defScope s__law_spoilt) .none kV17 dc17 pm17 an17 cd17 ct17), sl17⟩)
    (c17 : PySem.W.codeIn K cd17 "_law_spoilt" = true)
    (k17 : PySem.W.keepIn K (.ref F17) = true)
    (a18 : PySem.W.nsIn K mainGlobals "_law_same" = some (some (.ref F18)))
    (l18 : K.lookup F18 = some ⟨oc18, od18, .func (PySem.W.fnOf "_law_same" "_law_same" (defArgs s__law_same) (defBody s__law_same) (defScope s__law_same) .none kV18 dc18 pm18 an18 cd18 ct18), sl18⟩)
    (c18 : PySem.W.codeIn K cd18 "_law_same" = true)
    (k18 : PySem.W.keepIn K (.ref F18) = true)
    (a19 : PySem.W.nsIn K mainGlobals "_law_thing" = some (some (.ref F19)))
    (l19 : K.lookup F19 = some ⟨oc19, od19, .func (PySem.W.fnOf "_law_thing" "_law_thing" (defArgs s__law_thing) (defBody s__law_thing) (defScope s__law_thing) .none kV19 dc19 pm19 an19 cd19 ct19), sl19⟩)
    (c19 : PySem.W.codeIn K cd19 "_law_thing" = true)
    (k19 : PySem.W.keepIn K (.ref F19) = true)
    (a20 : PySem.W.nsIn K mainGlobals "law" = some (some (.ref F20)))
    (l20 : K.lookup F20 = some ⟨oc20, od20, .func (PySem.W.fnOf "law" "law" (defArgs s_law) (defBody s_law) (defScope s_law) .none kV20 dc20 pm20 an20 cd20 ct20), sl20⟩)
    (c20 : PySem.W.codeIn K cd20 "law" = true)
    (k20 : PySem.W.keepIn K (.ref F20) = true)
    (n_len : PySem.W.nsIn K mainGlobals "len" = some none)
    (n_range : PySem.W.nsIn K mainGlobals "range" = some none)
    (n_isinstance : PySem.W.nsIn K mainGlobals "isinstance" = some none)
    (n_str : PySem.W.nsIn K mainGlobals "str" = some none)
    (c_LONGEST_NAME : PySem.W.nsIn K mainGlobals "LONGEST_NAME" = some (some (.int 6 tc_LONGEST_NAME)))
    (c_LETTERS : PySem.W.nsIn K mainGlobals "LETTERS" = some (some (.str "abcdefghijklmnopqrstuvwxyz" tc_LETTERS)))
    (n_int : PySem.W.nsIn K mainGlobals "int" = some none)
    (n_bool : PySem.W.nsIn K mainGlobals "bool" = some none)
    (c_GREATEST : PySem.W.nsIn K mainGlobals "GREATEST" = some (some (.int 999999 tc_GREATEST)))
    (n_tuple : PySem.W.nsIn K mainGlobals "tuple" = some none)
    (c_DEEPEST : PySem.W.nsIn K mainGlobals "DEEPEST" = some (some (.int 4 tc_DEEPEST)))
    (n_list : PySem.W.nsIn K mainGlobals "list" = some none)
    : ∃ fd : FuncData, (∀ (s : Shared) (u : Value), BindsTo s fd ⟨[u], []⟩ [("_law_script", u)]) ∧ ∀ base : Heap, K.In base → base.Ns mainGlobals mg → FnOk P w K mg base (L2N.CX P w) 13 fa fd ["_law_script"] (sp_law K) := by
  have T : Txt K mg := { n_len := PySem.W.mg_none_of X G n_len, n_range := PySem.W.mg_none_of X G n_range, n_isinstance := PySem.W.mg_none_of X G n_isinstance, n_str := PySem.W.mg_none_of X G n_str, c_LONGEST_NAME := ⟨_, PySem.W.mg_of X G c_LONGEST_NAME, ⟨_, rfl⟩⟩, c_LETTERS := ⟨_, PySem.W.mg_of X G c_LETTERS, ⟨_, rfl⟩⟩, n_int := PySem.W.mg_none_of X G n_int, n_bool := PySem.W.mg_none_of X G n_bool, c_GREATEST := ⟨_, PySem.W.mg_of X G c_GREATEST, ⟨_, rfl⟩⟩, n_tuple := PySem.W.mg_none_of X G n_tuple, c_DEEPEST := ⟨_, PySem.W.mg_of X G c_DEEPEST, ⟨_, rfl⟩⟩, n_list := PySem.W.mg_none_of X G n_list }
  have D__law_cell_at : DefAt K mg "_law_cell_at" s__law_cell_at := ⟨F0, _, PySem.W.mg_of X G a0, fun_mk l0 c0 k0⟩
  have D__law_state : DefAt K mg "_law_state" s__law_state := ⟨F1, _, PySem.W.mg_of X G a1, fun_mk l1 c1 k1⟩
  have D__law_next : DefAt K mg "_law_next" s__law_next := ⟨F2, _, PySem.W.mg_of X G a2, fun_mk l2 c2 k2⟩
  have D__law_names : DefAt K mg "_law_names" s__law_names := ⟨F3, _, PySem.W.mg_of X G a3, fun_mk l3 c3 k3⟩
  have D_is_name : DefAt K mg "is_name" s_is_name := ⟨F4, _, PySem.W.mg_of X G a4, fun_mk l4 c4 k4⟩
  have D_is_number : DefAt K mg "is_number" s_is_number := ⟨F5, _, PySem.W.mg_of X G a5, fun_mk l5 c5 k5⟩
  have D_is_one_of : DefAt K mg "is_one_of" s_is_one_of := ⟨F6, _, PySem.W.mg_of X G a6, fun_mk l6 c6 k6⟩
  have D_values_in : DefAt K mg "values_in" s_values_in := ⟨F7, _, PySem.W.mg_of X G a7, fun_mk l7 c7 k7⟩
  have D_is_plain : DefAt K mg "is_plain" s_is_plain := ⟨F8, _, PySem.W.mg_of X G a8, fun_mk l8 c8 k8⟩
  have D_is_within : DefAt K mg "is_within" s_is_within := ⟨F9, _, PySem.W.mg_of X G a9, fun_mk l9 c9 k9⟩
  have D_is_value : DefAt K mg "is_value" s_is_value := ⟨F10, _, PySem.W.mg_of X G a10, fun_mk l10 c10 k10⟩
  have D__law_is_name : DefAt K mg "_law_is_name" s__law_is_name := ⟨F11, _, PySem.W.mg_of X G a11, fun_mk l11 c11 k11⟩
  have D__law_is_number : DefAt K mg "_law_is_number" s__law_is_number := ⟨F12, _, PySem.W.mg_of X G a12, fun_mk l12 c12 k12⟩
  have D__law_among : DefAt K mg "_law_among" s__law_among := ⟨F13, _, PySem.W.mg_of X G a13, fun_mk l13 c13 k13⟩
  have D__law_is_value : DefAt K mg "_law_is_value" s__law_is_value := ⟨F14, _, PySem.W.mg_of X G a14, fun_mk l14 c14 k14⟩
  have D__law_value : DefAt K mg "_law_value" s__law_value := ⟨F15, _, PySem.W.mg_of X G a15, fun_mk l15 c15 k15⟩
  have D__law_odd : DefAt K mg "_law_odd" s__law_odd := ⟨F16, _, PySem.W.mg_of X G a16, fun_mk l16 c16 k16⟩
  have D__law_spoilt : DefAt K mg "_law_spoilt" s__law_spoilt := ⟨F17, _, PySem.W.mg_of X G a17, fun_mk l17 c17 k17⟩
  have D__law_same : DefAt K mg "_law_same" s__law_same := ⟨F18, _, PySem.W.mg_of X G a18, fun_mk l18 c18 k18⟩
  have D__law_thing : DefAt K mg "_law_thing" s__law_thing := ⟨F19, _, PySem.W.mg_of X G a19, fun_mk l19 c19 k19⟩
  have D_law : DefAt K mg "law" s_law := ⟨F20, _, PySem.W.mg_of X G a20, fun_mk l20 c20 k20⟩
  refine law_F D_law bw_law (fun base _ _ => ?_) hfa
  have O__law_cell_at : Own P w K mg base "_law_cell_at" 1 ["_law_script", "_law_k"] (sp_cell K) := ok__law_cell_at T D__law_cell_at
  have O__law_state : Own P w K mg base "_law_state" 1 ["_law_cell", "_law_k"] (sp_state) := ok__law_state T D__law_state
  have O__law_next : Own P w K mg base "_law_next" 1 ["_law_state_here", "_law_size"] (sp_next) := ok__law_next T D__law_next
  have O__law_names : Own P w K mg base "_law_names" 2 ["_law_state_here", "_law_amount"] (sp_names) := ok__law_names T D__law_names O__law_next
  have O_is_name : Own P w K mg base "is_name" 1 ["thing"] (sp_isname) := ok_is_name T D_is_name
  have O_is_number : Own P w K mg base "is_number" 1 ["thing"] (sp_isnum) := ok_is_number T D_is_number
  have O_is_one_of : Own P w K mg base "is_one_of" 1 ["thing", "names"] (sp_oneof) := ok_is_one_of T D_is_one_of
  have O_values_in : Own P w K mg base "values_in" 1 ["word"] (sp_valsin) := ok_values_in T D_values_in
  have O_is_plain : Own P w K mg base "is_plain" 2 ["thing", "boxes", "lists"] (sp_plain) := ok_is_plain T D_is_plain O_is_number O_is_one_of
  have O_is_within : Own P w K mg base "is_within" 8 ["thing", "boxes", "lists", "deep"] (sp_within 5) := ok_is_within T D_is_within O_values_in O_is_plain O_is_one_of 5
  have O_is_value : Own P w K mg base "is_value" 9 ["thing", "boxes", "lists"] (sp_value4) := ok_is_value T D_is_value O_is_within
  have O__law_is_name : Own P w K mg base "_law_is_name" 1 ["_law_thing_here"] (sp_isname) := ok__law_is_name T D__law_is_name
  have O__law_is_number : Own P w K mg base "_law_is_number" 1 ["_law_thing_here"] (sp_isnum) := ok__law_is_number T D__law_is_number
  have O__law_among : Own P w K mg base "_law_among" 1 ["_law_thing_here", "_law_names_here"] (sp_oneof) := ok__law_among T D__law_among
  have O__law_is_value : Own P w K mg base "_law_is_value" 7 ["_law_thing_here", "_law_boxes", "_law_lists", "_law_deep"] (sp_within 5) := ok__law_is_value T D__law_is_value O__law_is_number O__law_among 5
  have O__law_value : Own P w K mg base "_law_value" 8 ["_law_state_here", "_law_deep", "_law_boxes", "_law_lists"] (sp_value 6) := ok__law_value T D__law_value O__law_next 6
  have O__law_odd : Own P w K mg base "_law_odd" 2 ["_law_thing_here", "_law_state_here"] (sp_odd) := ok__law_odd T D__law_odd O__law_next
  have O__law_spoilt : Own P w K mg base "_law_spoilt" 11 ["_law_thing_here", "_law_state_here"] (sp_spoilt 8) := ok__law_spoilt T D__law_spoilt O__law_next O__law_odd 8
  have O__law_same : Own P w K mg base "_law_same" 1 ["_law_found", "_law_due"] (sp_same) := ok__law_same T D__law_same
  have O__law_thing : Own P w K mg base "_law_thing" 12 ["_law_state_here", "_law_boxes", "_law_lists"] (sp_thing) := ok__law_thing T D__law_thing O__law_value O__law_next O__law_spoilt
  exact ok_law T O__law_state O__law_cell_at O__law_names O__law_next O__law_thing O__law_same O_is_value O__law_is_value O_is_name O__law_is_name O_is_number O__law_is_number
theorem walk {l : PySem.W.OpenLaw} {q : Program} {loose : List Str} {XP : (Str → Option Value) → Heap → Prop} {YP : World → Heap → Prop} {d : DefRec} {K : Params → PySem.W.Frag} (hn : l.most = some 63) (hdf : d.params.defaults = [])
    (hY : ∀ (w : World) (h : Heap), YP w h → (K w.params).In h)
    (F : ∀ (w : World) (mg : Str → Option Value) (fa : Addr) (h : Heap), (K w.params).In h → h.Ns mainGlobals mg → mg d.name = some (.ref fa) →
      ∃ fd : FuncData, (∀ (s : Shared) (u : Value), BindsTo s fd ⟨[u], []⟩ [("_law_script", u)]) ∧ ∀ base : Heap, (K w.params).In base → base.Ns mainGlobals mg → FnOk l.prog w (K w.params) mg base (L2N.CX l.prog w) 13 fa fd ["_law_script"] (sp_law (K w.params))) :
    PySem.W.WalkO q loose XP YP l.row.toRowW d [] (fun f vs => PySem.call f vs) :=
  L2.walk_of (n := 63) (k := 13) (x := "_law_script") (CX := fun w => L2N.CX l.prog w) (sp := fun w => (sp_law (K w.params))) hn (by decide) hdf ⟨rfl, by decide, by decide⟩ hY F
    (fun w H a ns hl hO hS => sp_law_start hl hO hS) fun _ _ _ _ _ z => noneN z
end Cl
open PySem PySem.W PyProof.Rows
set_option maxRecDepth 100000 in
set_option maxHeartbeats 0 in
theorem PySem.Challenge.cw_retrace_k01_names_numbers_values_holds : PySem.Challenge.rw_retrace_k01_names_numbers_values.Holds := by
  w_on; o_law; k_head; (case hw => w_witness2)
  k_fill
  refine Cl.walk (l := PySem.Challenge.rw_retrace_k01_names_numbers_values) rfl rfl (fun w h Y => PySem.W.kIn_of Y) ?F
  case F =>
    intro w mg fa h KX G hmg
    refine' Cl.all_mk KX G hmg ?a0 ?l0 ?c0 ?k0 ?a1 ?l1 ?c1 ?k1 ?a2 ?l2 ?c2 ?k2 ?a3 ?l3 ?c3 ?k3 ?a4 ?l4 ?c4 ?k4 ?a5 ?l5 ?c5 ?k5 ?a6 ?l6 ?c6 ?k6 ?a7 ?l7 ?c7 ?k7 ?a8 ?l8 ?c8 ?k8 ?a9 ?l9 ?c9 ?k9 ?a10 ?l10 ?c10 ?k10 ?a11 ?l11 ?c11 ?k11 ?a12 ?l12 ?c12 ?k12 ?a13 ?l13 ?c13 ?k13 ?a14 ?l14 ?c14 ?k14 ?a15 ?l15 ?c15 ?k15 ?a16 ?l16 ?c16 ?k16 ?a17 ?l17 ?c17 ?k17 ?a18 ?l18 ?c18 ?k18 ?a19 ?l19 ?c19 ?k19 ?a20 ?l20 ?c20 ?k20 ?n_len ?n_range ?n_isinstance ?n_str ?c_LONGEST_NAME ?c_LETTERS ?n_int ?n_bool ?c_GREATEST ?n_tuple ?c_DEEPEST ?n_list
    (case a0 => first | k_is | rfl)
    (case l0 => first | k_is | rfl)
    (case c0 => first | k_is | rfl)
    (case k0 => first | k_is | rfl)
    (case a1 => first | k_is | rfl)
    (case l1 => first | k_is | rfl)
    (case c1 => first | k_is | rfl)
    (case k1 => first | k_is | rfl)
    (case a2 => first | k_is | rfl)
    (case l2 => first | k_is | rfl)
    (case c2 => first | k_is | rfl)
    (case k2 => first | k_is | rfl)
    (case a3 => first | k_is | rfl)
    (case l3 => first | k_is | rfl)
    (case c3 => first | k_is | rfl)
    (case k3 => first | k_is | rfl)
    (case a4 => first | k_is | rfl)
    (case l4 => first | k_is | rfl)
    (case c4 => first | k_is | rfl)
    (case k4 => first | k_is | rfl)
    (case a5 => first | k_is | rfl)
    (case l5 => first | k_is | rfl)
    (case c5 => first | k_is | rfl)
    (case k5 => first | k_is | rfl)
    (case a6 => first | k_is | rfl)
    (case l6 => first | k_is | rfl)
    (case c6 => first | k_is | rfl)
    (case k6 => first | k_is | rfl)
    (case a7 => first | k_is | rfl)
    (case l7 => first | k_is | rfl)
    (case c7 => first | k_is | rfl)
    (case k7 => first | k_is | rfl)
    (case a8 => first | k_is | rfl)
    (case l8 => first | k_is | rfl)
    (case c8 => first | k_is | rfl)
    (case k8 => first | k_is | rfl)
    (case a9 => first | k_is | rfl)
    (case l9 => first | k_is | rfl)
    (case c9 => first | k_is | rfl)
    (case k9 => first | k_is | rfl)
    (case a10 => first | k_is | rfl)
    (case l10 => first | k_is | rfl)
    (case c10 => first | k_is | rfl)
    (case k10 => first | k_is | rfl)
    (case a11 => first | k_is | rfl)
    (case l11 => first | k_is | rfl)
    (case c11 => first | k_is | rfl)
    (case k11 => first | k_is | rfl)
    (case a12 => first | k_is | rfl)
    (case l12 => first | k_is | rfl)
    (case c12 => first | k_is | rfl)
    (case k12 => first | k_is | rfl)
    (case a13 => first | k_is | rfl)
    (case l13 => first | k_is | rfl)
    (case c13 => first | k_is | rfl)
    (case k13 => first | k_is | rfl)
    (case a14 => first | k_is | rfl)
    (case l14 => first | k_is | rfl)
    (case c14 => first | k_is | rfl)
    (case k14 => first | k_is | rfl)
    (case a15 => first | k_is | rfl)
    (case l15 => first | k_is | rfl)
    (case c15 => first | k_is | rfl)
    (case k15 => first | k_is | rfl)
    (case a16 => first | k_is | rfl)
    (case l16 => first | k_is | rfl)
    (case c16 => first | k_is | rfl)
    (case k16 => first | k_is | rfl)
    (case a17 => first | k_is | rfl)
    (case l17 => first | k_is | rfl)
    (case c17 => first | k_is | rfl)
    (case k17 => first | k_is | rfl)
    (case a18 => first | k_is | rfl)
    (case l18 => first | k_is | rfl)
    (case c18 => first | k_is | rfl)
    (case k18 => first | k_is | rfl)
    (case a19 => first | k_is | rfl)
    (case l19 => first | k_is | rfl)
    (case c19 => first | k_is | rfl)
    (case k19 => first | k_is | rfl)
    (case a20 => first | k_is | rfl)
    (case l20 => first | k_is | rfl)
    (case c20 => first | k_is | rfl)
    (case k20 => first | k_is | rfl)
    (case n_len => first | k_is | rfl)
    (case n_range => first | k_is | rfl)
    (case n_isinstance => first | k_is | rfl)
    (case n_str => first | k_is | rfl)
    (case c_LONGEST_NAME => first | k_is | rfl)
    (case c_LETTERS => first | k_is | rfl)
    (case n_int => first | k_is | rfl)
    (case n_bool => first | k_is | rfl)
    (case c_GREATEST => first | k_is | rfl)
    (case n_tuple => first | k_is | rfl)
    (case c_DEEPEST => first | k_is | rfl)
    (case n_list => first | k_is | rfl)
