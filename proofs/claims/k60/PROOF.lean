import PyProof.Rows.All
import Wide.All
import OpenK.AllK
import Wide.FinOn
import HandS.ForMost
import HandS.ForExc
import HandS.ExcCtx
import HandS.HotCalls
import HandS.ExcIs
import HandS.IsInst
import HandS.Flow
import HandS.SetFor
import HandS.SortInts
import HandS.Conv
import HandS.WideBits
import HandS.TupSets
import HandS.Deep
import HandS.DictComp
import HandS.More
import KE.GoesEnum
import KE.GoesZip
import KE.GoesMore
import PySem.Challenge.RW_retrace_k60_last_writers
set_option Elab.async false
set_option linter.all false
set_option maxRecDepth 100000
set_option maxHeartbeats 4000000
namespace RT
open PySem PySem.Spec PyProof.Rows L2 L2H
/-! ## 1. a def called while an error is held: its promise may speak of that error -/
abbrev SpP := Addr → Value → Option Addr → Sp
structure FnP (P : Program) (w : World) (K : PySem.W.Frag) (mg : Str → Option Value) (base : Heap) (CX : CXT)
    (k : Nat) (f : Addr) (fd : FuncData) (ps : List Str) (sp : SpP) : Prop where
  len : ∀ a c d vs H Q E, sp a c d vs H Q E → vs.length = ps.length
  run : ∀ (A : Around) (outer : List Env) (s : Shared) (H : Hp) (args : Args) (us : List Value) (vs : List V)
    (Q : VK) (E : XK) (e : Addr × Obj) (cls : Value) (d : Option Addr), RoomH k A → Hot1 A e → Zc cls d e.2 → PinOk outer H s e →
    Env0 P w K mg base A outer s H → BindsTo s fd args (ps.zip us) → Vals vs us → sp e.1 cls d vs H Q E →
    codeAny (model P w) A (.call (.ref f) args) (CR CX outer P w H s Q E) s
theorem fn_ofP {CX : CXT} {P : Program} {w : World} {K : PySem.W.Frag} {mg : Str → Option Value} {base : Heap} {k : Nat}
    {f : Addr} {name qual : Str} {params : Arguments} {body : List Stmt} {scope : Scope} {dV kV doc pm cdv ct oc : Value}
    {an od : Option Addr} {osl : Array (Option Value)} {N ps : List Str} {sp : SpP}
    (lk : K.lookup f = some ⟨oc, od, .func (PySem.W.fnOf name qual params body scope dV kV doc pm an cdv ct), osl⟩)
    (hcd : PySem.W.codeIn K cdv qual = true) (S : FnScope N ps scope)
    (len : ∀ a c d vs H Q E, sp a c d vs H Q E → vs.length = ps.length)
    (hbody : ∀ (A : Around) (outer : List Env) (s : Shared) (H : Hp) (vs : List V) (Q : VK) (E : XK) (e : Addr × Obj) (cls : Value) (d : Option Addr),
      Hot1 A e → Zc cls d e.2 → RoomH k (A.deeper (envOfC qual scope s.heap.objs.size f cdv)) → sp e.1 cls d vs H Q E →
      ∃ t, PSs (cxH CX P w K mg base N qual scope f cdv A outer s H E e) body t ∧
        t { nx := fun _ H' => Q .non H', rt := Q } (L2.start N vs) H) :
    FnP P w K mg base CX (k + 1) f (PySem.W.fnOf name qual params body scope dV kV doc pm an cdv ct) ps sp := by
  constructor
  · exact len
  · intro A outer s H args us vs Q E e cls d hr hot hz hpin e0 hb r hsp
    have hl := len _ _ _ _ _ _ _ hsp
    have KX : K.In s.heap := e0.mod.kin.keeps fun b o z => (e0.bs b o z).1
    have lim : s.heap.NoLimit := e0.mod.nolimit.keeps fun b o z => (e0.bs b o z).1
    refine codeAny_call_function hr.depth (KX _ _ lk) rfl S.co S.gen rfl (PySem.W.codeRec_of KX hcd)
      (hb _ _ _ _ ?_)
    refine wpAny_newFunctionEnv_cells S.kind (fun y hy => ?_) fun env he s1 x => ?_
    · obtain ⟨n, v⟩ := y
      rcases S.par n (List.of_mem_zip hy).1 with q | q
      · exact .inl q
      · exact .inr ⟨q, PySem.W.cellsFrom_some _ _ _ (.inl q)⟩
    subst he
    refine ⟨lim.keeps x.toInCall.keep, codeAny_func ?_⟩
    obtain ⟨t, ht, hq⟩ := hbody A outer s H vs Q E e cls d hot hz (hr.deeper _) hsp
    have I := inv_startH (CX := CX) (E := E) S hpin e0 hl r x
    refine wpAny_mono (ht.run [] s1 (L2.start N vs) H _ I hq) (fun fl s' hs => ?_) fun u s' hs => hs
    cases fl with
    | ret u =>
      obtain ⟨v, σ', H', J, rv, q⟩ := hs
      exact ⟨v, H', J.os, J.bare, J.base, J.hok, rv, q⟩
    | next =>
      obtain ⟨σ', H', J, q⟩ := hs
      exact ⟨.non, H', J.os, J.bare, J.base, J.hok, rfl, q⟩
    | brk => exact hs.elim fun _ z => z.elim fun _ z => z.2.elim
    | cont => exact hs.elim fun _ z => z.elim fun _ z => z.2.elim
/-- the suite's own held error, in the callee's eyes -/
theorem pe_callP {X : Cx} {CX : CXT} {k : Nat} {f : Addr} {fd : FuncData} {ps : List Str} {sp : SpP} {E : L2.St → XK}
    {x : Str} {q pos : Pos} {e : Expr} {es : List Expr} {t : TA} {p : Addr × Obj} {cls : Value} {d : Option Addr}
    (F : FnP X.prog X.w X.K X.mg X.base CX k f fd ps sp) (hr : RoomH k X.A) (hot : Hot1 X.A p) (hp : p ∈ X.pn) (hz : Zc cls d p.2)
    (hg : Gl X x) (hm : X.mg x = some (.ref f)) (hk : PySem.W.keepIn X.K (.ref f) = true) (hb : Binds X.K fd ps [])
    (hx : ∀ σ, PassesAt CX X σ (E σ)) (ha : PA X (e :: es) t) (hdb : (x == ("__debug__" : Str)) = false := by decide)
    (he : starEach (e :: es) X.env = (false, eval e X.env) :: starEach es X.env := by rfl)
    (hpl : (backTo pos (starEach es X.env)).any (·.1) = false := by rfl) :
    PE X (.Call (.Name x q) (e :: es) [] pos) (tCallS (sp p.1 cls d) E t) := by
  constructor
  intro pins s σ H Q I h
  refine wpAny_Call_Name_kw (ld_glob I hg hm ?_ hdb)
  refine PySem.W.callWith_K (h₀ := X.base) I.ok.mod.kin hk
    (thn (ha.run pos pins s σ H _ I h) fun us s1 ⟨vs, H1, I1, r, q1⟩ => ⟨I1.kIn, ?_⟩) he hpl
  have hl : us.length = ps.length := by rw [← r.length]; exact F.len _ _ _ _ _ _ _ q1
  have b := hb s1 us I1.kIn (by rw [List.append_nil]; exact hl)
  rw [List.append_nil] at b
  have P1 := I1.pin p (List.mem_append_left _ hp)
  have hpin : PinOk X.stack H1 s1 p := ⟨P1.1, P1.2.1, fun hm1 => by
    rcases List.mem_cons.mp (I1.stkSub p.1 hm1) with z | z
    · exact P1.2.2.1 z
    · exact P1.2.2.2.1 z, P1.2.2.2.2⟩
  refine wpAny_call (codeAny_mono (F.run X.A X.stack s1 H1 ⟨us, []⟩ us vs Q (E σ) p cls d hr hot hz hpin I1.env0 b r q1) fun rr s' hq => ?_)
  cases rr with
  | error u => exact hx σ pins H1 s1 u s' I1 hq
  | ok fl =>
    cases fl with
    | ret u => exact I1.after hq
    | next => exact hq.elim
    | brk => exact hq.elim
    | cont => exact hq.elim
/-- isinstance of an error that is pinned -/
def uIsE (K : PySem.W.Frag) (cls : Value) (d : Option Addr) (a : Addr) : List V → Hp → VK → Prop := fun xs H Q =>
  ∃ (D : Addr) (c : V) (cv : Value) (b : Bool), cls = .ref D ∧ d = none ∧ ExcC K D ∧ xs = [.ref a, c] ∧
    (∀ u, RelV c u → u = cv) ∧ PySem.W.kitOne K (.ref D) cv = some b ∧ Q (.bl b) H
theorem call_isP {X : Cx} {K : PySem.W.Frag} {e : Addr × Obj} {cls : Value} {d : Option Addr} (hp : e ∈ X.pn) (hz : Zc cls d e.2)
    (hf : ∃ vs, e.2.data = .fields vs) (hK : X.K = K := by rfl) : CallR X (.builtin "isinstance") (uIsE K cls d e.1) := by
  subst hK
  intro pins s σ H xs us Q I r h
  obtain ⟨D, c, cv, b, rfl, rfl, C, rfl, hcv, ek, q⟩ := h
  obtain ⟨u1, u2, rfl, r1, r2⟩ := Vals.two r
  obtain rfl := hcv _ r2
  obtain rfl : u1 = Value.ref e.1 := r1
  have hget := (I.pin e (List.mem_append_left _ hp)).1
  obtain ⟨vs, hv⟩ := hf
  have J : PySem.W.InstAt s.heap e.1 e.2 D none := by
    obtain ⟨a, oc, od, oda, osl⟩ := e
    obtain ⟨h1, h2⟩ := hz
    dsimp only at h1 h2 hv hget
    subst h1 h2 hv
    exact ⟨hget, rfl, rfl, trivial⟩
  refine PySem.W.kia_one (PySem.W.handS_kitx_exc C.hg C.hk C.hs C.hd C.ha C.hn C.ht C.hm) I.kIn J ek (fun z => nomatch z) fun tk => ?_
  exact ⟨.bl b, H, I.kept (t' := tk) fun _ _ z => z, rfl, q⟩
/-! ## 2. a def of the text: its body, errors may leave it -/
section
variable {P : Program} {w : World} {K : PySem.W.Frag} {mg : Str → Option Value} {base : Heap}
theorem okN {x qual : Str} {st : Stmt} {f : Addr} {fd : FuncData} {N ps : List Str} {k : Nat} {sp : Sp}
    (F : Fun K x qual st f fd) (S : FnScope N ps (defScope st)) (len : ∀ vs H Q E, sp vs H Q E → vs.length = ps.length)
    (hbody : ∀ (cdv : Value) (A : Around) (outer : List Env) (s : Shared) (H : Hp) (vs : List V) (Q : VK) (E : XK),
      Room k (A.deeper (envOfC qual (defScope st) s.heap.objs.size f cdv)) → sp vs H Q E →
      ∃ t, PSs (cxOf (L2N.CX P w) P w K mg base N qual (defScope st) f cdv A outer s H E) (defBody st) t ∧
        t ⟨fun _ H' => Q .non H', Q, fun _ _ => False, fun _ _ => False⟩ (L2.start N vs) H) :
    FnOk P w K mg base (L2N.CX P w) (k + 1) f fd ps sp := by
  obtain ⟨oc, od, kV, doc, pm, an, cdv, ct, osl, rfl, lk, hcd⟩ := F.ex
  exact fn_of lk hcd S len fun A outer s H vs Q E hr hsp => hbody cdv A outer s H vs Q E hr hsp
theorem okP {x qual : Str} {st : Stmt} {f : Addr} {fd : FuncData} {N ps : List Str} {k : Nat} {sp : SpP}
    (F : Fun K x qual st f fd) (S : FnScope N ps (defScope st)) (len : ∀ a c d vs H Q E, sp a c d vs H Q E → vs.length = ps.length)
    (hbody : ∀ (cdv : Value) (A : Around) (outer : List Env) (s : Shared) (H : Hp) (vs : List V) (Q : VK) (E : XK) (e : Addr × Obj) (cls : Value) (d : Option Addr),
      Hot1 A e → Zc cls d e.2 → RoomH k (A.deeper (envOfC qual (defScope st) s.heap.objs.size f cdv)) → sp e.1 cls d vs H Q E →
      ∃ t, PSs (cxH (L2N.CX P w) P w K mg base N qual (defScope st) f cdv A outer s H E e) (defBody st) t ∧
        t ⟨fun _ H' => Q .non H', Q, fun _ _ => False, fun _ _ => False⟩ (L2.start N vs) H) :
    FnP P w K mg base (L2N.CX P w) (k + 1) f fd ps sp := by
  obtain ⟨oc, od, kV, doc, pm, an, cdv, ct, osl, rfl, lk, hcd⟩ := F.ex
  exact fn_ofP lk hcd S len fun A outer s H vs Q E e cls d hot hz hr hsp => hbody cdv A outer s H vs Q E e cls d hot hz hr hsp
end
/-- nothing is let out -/
theorem passN {X : Cx} : ∀ σ, PassesAt (L2N.CX X.prog X.w) X σ ((fun _ => E0) σ) := by
  intro σ pins H s e s' I h
  obtain ⟨_, _, _, _, _, _, _, _, _, _, _, _, z⟩ := h
  exact z.elim
/-! ## 3. operators that take what comes -/
section
variable {X : Cx} {K : PySem.W.Frag}
def uCnt (K : PySem.W.Frag) : V → List V → Hp → VK → Prop := fun x vs H Q => ∃ (p : Addr) (xs : List V) (y : V),
  x = .ref p ∧ vs = [y] ∧ SqL K H p xs ∧ flatV y = true ∧ xs.all flatV = true ∧ Q (.int (xs.countP fun z => eqV z y : Nat)) H
theorem countP_eqU {x : V} : ∀ {xs : List V} {us : List Value}, Vals xs us → xs.all flatV = true →
    us.countP (eqU x) = xs.countP fun y => eqV y x
  | _, _, .nil, _ => rfl
  | y :: xs, u :: us, .cons r t, f => by
    rw [List.all_cons, Bool.and_eq_true] at f
    rw [List.countP_cons, List.countP_cons, eqU_of r f.1, countP_eqU t f.2]
theorem mt_cnt (hK : X.K = K := by rfl) : MtR X "list.count" (uCnt K) := by
  subst hK
  intro pins s σ H x xs v us Q I rx rxs h
  obtain ⟨p, ys, y, rfl, rfl, hs, fy, fs, q⟩ := h
  cases rx
  obtain ⟨u, rfl, ru⟩ := rxs.one
  obtain ⟨its, rv, ⟨⟨cls, dd, data, sl⟩, n, ho, hc, hdn, hd⟩, hlen⟩ := I.list hs
  simp only at hc hd
  subst hc hd
  refine call_meets PySem.F.slot_list_count ⟨_, ho, rfl⟩ PySem.F.entry_list_count (PySem.F.args_list_count_2 _ _)
    (SeqAt.list_countAt p its.toArray n dd sl u (eqU y))
    ⟨ho, fun z hz => mem_eqAt ru fy rv fs z (by simpa using hz), .int _, H, I.tok _, ⟨s.toks, ?_⟩, q⟩
  show Value.int ((its.countP (eqU y) : Nat) : Int) s.toks = _
  rw [countP_eqU rv fs]
end
end RT

namespace RT
open PySem PySem.Spec PyProof.Rows L2
/-! ## 11. sorted of tuples, by their things from the first on -/
def LexV : List V → List V → Option Bool
  | [], [] => some false
  | [], _ :: _ => some true
  | _ :: _, [] => some false
  | .int i :: xs, .int j :: ys => if i = j then LexV xs ys else some (decide (i < j))
  | .str i :: xs, .str j :: ys => if i = j then LexV xs ys else some (decide (i.cps.toList < j.cps.toList))
  | .ref a :: xs, .ref b :: ys => if a = b then LexV xs ys else none
  | _ :: _, _ :: _ => none
section
variable {prog : Program} {w : World} {A : Around} {E : Value → Shared → Prop} {s : Shared} {Q : Bool → Shared → Prop}
theorem oneLt_strs (c : Bool) {p q : Str} {t u : Tok} (h : Q (decide (p.cps.toList < q.cps.toList)) s) : wpAny (model prog w) A (oneLt' c (.str p t) (.str q u)) Q E s := by
  cases c with
  | true => exact oneLt_str h
  | false => exact PySem.W.kat_one _ _ (PyProof.Rows.lt_str (Q := PySem.W.BoolBack Q) h)
theorem lexV_at {b : Bool} : ∀ {xs ys : List V} {us ws : List Value} (i : Nat) {r fin : Bool}, Vals xs us → Vals ys ws → LexV xs ys = some r → fin = decide (us.length < ws.length) → Q r s → PySem.W.KatLex prog w A b fin Q (us.zip ws) i s
  | [], [], _, _, i, r, fin, .nil, .nil, h, hf, q => by
    cases h
    subst hf
    exact PySem.W.kat_nil q
  | [], _ :: _, _, _, i, r, fin, .nil, .cons _ _, h, hf, q => by
    cases h
    subst hf
    rw [List.zip_nil_left]
    refine PySem.W.kat_nil ?_
    rw [show decide (([] : List Value).length < _) = true from by simp]
    exact q
  | _ :: _, [], _, _, i, r, fin, .cons _ _, .nil, h, hf, q => by
    cases h
    subst hf
    rw [List.zip_nil_right]
    refine PySem.W.kat_nil ?_
    rw [show decide (_ < ([] : List Value).length) = false from by simp]
    exact q
  | x :: xs, y :: ys, u :: us, v :: ws, i, r, fin, .cons rx tx, .cons ry ty, h, hf, q => by
    have hf' : fin = decide (us.length < ws.length) := by rw [hf]; simp
    rw [List.zip_cons_cons]
    cases x <;> cases y
    case int.int p p' =>
      obtain ⟨t, rfl⟩ := rx
      obtain ⟨t', rfl⟩ := ry
      refine PySem.W.kat_cons (SeqAt.EqAt.int_int p t p' t' prog w _ _ ?_)
      simp only [LexV] at h
      refine PySem.W.kat_go (fun e => ?_) (fun e => ?_)
      · have : p = p' := by simpa using e
        rw [if_pos this] at h
        exact PySem.W.kat_yes (lexV_at (i + 1) tx ty h hf' q)
      · have : ¬ p = p' := by simpa using e
        rw [if_neg this] at h
        cases h
        exact PySem.W.kat_no (TS.oneLt_ints _ q)
    case str.str p p' =>
      obtain ⟨t, rfl⟩ := rx
      obtain ⟨t', rfl⟩ := ry
      refine PySem.W.kat_cons (SeqAt.EqAt.str_str p t p' t' prog w _ _ ?_)
      simp only [LexV] at h
      refine PySem.W.kat_go (fun e => ?_) (fun e => ?_)
      · have : p = p' := by simpa using e
        rw [if_pos this] at h
        exact PySem.W.kat_yes (lexV_at (i + 1) tx ty h hf' q)
      · have : ¬ p = p' := by simpa using e
        rw [if_neg this] at h
        cases h
        exact PySem.W.kat_no (oneLt_strs _ q)
    case ref.ref p p' =>
      obtain rfl : u = Value.ref p := rx
      obtain rfl : v = Value.ref p' := ry
      simp only [LexV] at h
      by_cases e : p = p'
      · subst e
        rw [if_pos rfl] at h
        refine PySem.W.kat_cons (SeqAt.EqAt.same _ prog w _ _ ?_)
        exact PySem.W.kat_yes (lexV_at (i + 1) tx ty h hf' q)
      · rw [if_neg e] at h
        cases h
    all_goals cases h
end
theorem swo_bk {lt : V → V → Bool} (O : SrtO.Swo lt) : SrtO.Swo fun v u : Value => lt (bkV v) (bkV u) :=
  ⟨fun x y => O.asym _ _, fun x y z => O.tr _ _ _⟩
/-- sorted of tuples of ints and texts (and of what is one and the same), by their things from the first on -/
def rSortC (K : PySem.W.Frag) : List V → Hp → VK → Prop := fun vs H Q => ∃ (a : Addr) (xs : List V) (k : V → List V) (lt : V → V → Bool), vs = [.ref a] ∧ SqL K H a xs ∧ (∀ x ∈ xs, ∃ t, x = .ref t ∧ SqT K H t (k x)) ∧
  ((∀ x ∈ xs, ∃ z r, k x = .str z :: r) ∨ (∀ x ∈ xs, ∃ z r, k x = .int z :: r)) ∧ SrtO.Swo lt ∧ (∀ x ∈ xs, ∀ y ∈ xs, LexV (k x) (k y) = some (lt x y)) ∧
  ∀ ys p, SrtO.Srtd lt ys → ys.Perm xs → H p = none → Q (.ref p) (upd H p (.lst ys))
def TupAt (h : Heap) (v : Value) (zs : List V) : Prop := ∃ (a : Addr) (its : List Value), v = .ref a ∧ Vals zs its ∧ IsTup h a its.toArray
theorem TupAt.keeps {h h' : Heap} {v : Value} {zs : List V} (p : TupAt h v zs) (k : ∀ b o, h.get? b = some o → o.cls = .type "tuple" → h'.get? b = some o) : TupAt h' v zs := by
  obtain ⟨a, its, rfl, r, o, ho, hc, n, hd⟩ := p
  exact ⟨a, its, rfl, r, o, k a o ho hc, hc, n, hd⟩
theorem firstsC {h : Heap} {f : V → Prop} : ∀ {vs : List Value} {k : Value → List V}, (∀ v ∈ vs, TupAt h v (k v) ∧ ∃ z r, f z ∧ k v = z :: r) →
    ∃ fs : List Value, PySem.W.KatTups h vs fs ∧ fs.length = vs.length ∧ ∀ u ∈ fs, ∃ z, f z ∧ RelV z u
  | [], _, _ => ⟨[], PySem.W.KatTups.nil, rfl, fun _ hm => by simp at hm⟩
  | v :: vs, k, hp => by
    obtain ⟨fs, h1, h2, h3⟩ := firstsC (vs := vs) (k := k) fun v' hm => hp v' (List.mem_cons_of_mem _ hm)
    obtain ⟨⟨a, its, e, r, o, ho, hc, n, hd⟩, z, zs, hz, ek⟩ := hp v (List.mem_cons_self ..)
    subst e
    rw [ek] at r
    cases r with
    | @cons _ u _ us r0 rs =>
      refine ⟨u :: fs, PySem.W.KatTups.cons ho hc hd rfl h1, by rw [List.length_cons, List.length_cons, h2], fun x hm => ?_⟩
      rcases List.mem_cons.mp hm with rfl | hm
      · exact ⟨z, hz, r0⟩
      · exact h3 x hm
theorem cr_sortedC {X : Cx} {K : PySem.W.Frag} (hK : X.K = K := by rfl) : CallR X (.builtin "sorted") (rSortC K) := by
  subst hK
  intro pins s σ H vs us Q I r h
  obtain ⟨a, xs, k, lt, rfl, hs, hx, hf, O, hlt, q⟩ := h
  obtain ⟨its, rv, hl, hz⟩ := I.list hs
  rw [Vals.ref1 r]
  obtain ⟨e1, e2⟩ := bkV_refs rv fun x m => by
    obtain ⟨t, e, _⟩ := hx x m
    exact ⟨t, e⟩
  have hmem : ∀ v ∈ its, bkV v ∈ xs := fun v hv => by rw [e1]; exact List.mem_map.mpr ⟨_, hv, rfl⟩
  have hT : ∀ v ∈ its, TupAt s.heap v (k (bkV v)) := fun v hv => by
    obtain ⟨t, rfl⟩ := e2 v hv
    obtain ⟨t', et, ht⟩ := hx _ (hmem _ hv)
    have et' : t = t' := by
      have : (V.ref t : V) = V.ref t' := et
      injection this
    subst et'
    obtain ⟨ts, rt, p, _⟩ := I.tuple ht
    exact ⟨t, ts, rfl, rt, p⟩
  refine SrtO.sorted_ord (swo_bk O) hl.isList (by rw [← rv.length]; exact hz) (fun h2 h₁ a' ha kk => ?_) fun out h1 h2 => ?_
  · intro h' keep
    have keep2 : ∀ b o, s.heap.get? b = some o → o.cls = .type "tuple" → h'.get? b = some o := fun b o e c => by
      have := kk b o e
      exact keep b o this.1 this.2
    have hT' : ∀ v ∈ its, TupAt h' v (k (bkV v)) := fun v hv => (hT v hv).keeps keep2
    have hc : SrtO.Cmp X.prog X.w X.A.in1.in1 { s with heap := h' } (tuples' true) (fun p => p.1 ∈ its) (SrtO.lt2 fun v u : Value => lt (bkV v) (bkV u)) := by
      intro p q hp hq
      obtain ⟨t, ts, et, rt, o, ho, hc, n, hd⟩ := hT' _ hp
      obtain ⟨t2, ts2, et2, rt2, o2, ho2, hc2, n2, hd2⟩ := hT' _ hq
      have hl := hlt _ (hmem _ hp) _ (hmem _ hq)
      show wpAny _ _ (keyLt' (tuples' true) p.1 q.1) (fun r s' => s' = _ ∧ r = lt (bkV p.1) (bkV q.1)) (fun _ _ => False) _
      generalize lt (bkV p.1) (bkV q.1) = b at hl
      rw [et, et2]
      refine PySem.W.kat_lt ho hd ho2 hd2 ?_
      exact lexV_at 0 rt rt2 hl (by simp) ⟨rfl, rfl⟩
    refine ⟨tuples' true, fun Q' E' hq => ?_, hc⟩
    rcases hf with hf | hf
    · obtain ⟨fs, g1, g2, g3⟩ := firstsC (f := fun z => ∃ y, z = .str y) (k := fun v => k (bkV v)) fun v hv => ⟨hT' v hv, by
        obtain ⟨z, r, e⟩ := hf _ (hmem _ hv)
        exact ⟨_, _, ⟨z, rfl⟩, e⟩⟩
      refine PySem.W.kat_kind (T := .type "str") g1 (by omega) (fun f hm => ?_) (by rfl) ?_
      · obtain ⟨z, ⟨y, rfl⟩, t, rfl⟩ := g3 f hm
        exact PySem.W.Looks.now
      · have e : (Value.type "str" != Value.type "tuple") = true := by first | decide +kernel | rfl | decide
        rw [e]
        exact hq
    · obtain ⟨fs, g1, g2, g3⟩ := firstsC (f := fun z => ∃ y, z = .int y) (k := fun v => k (bkV v)) fun v hv => ⟨hT' v hv, by
        obtain ⟨z, r, e⟩ := hf _ (hmem _ hv)
        exact ⟨_, _, ⟨z, rfl⟩, e⟩⟩
      refine PySem.W.kat_kind (T := .type "int") g1 (by omega) (fun f hm => ?_) (by rfl) ?_
      · obtain ⟨z, ⟨y, rfl⟩, t, rfl⟩ := g3 f hm
        exact PySem.W.Looks.now
      · have e : (Value.type "int" != Value.type "tuple") = true := by first | decide +kernel | rfl | decide
        rw [e]
        exact hq
  · obtain ⟨ep, he'⟩ := PyProof.Rows.sortedAll_at s.heap its out.toArray
    have hp : (out.map bkV).Perm xs := by
      rw [e1]
      exact h2.perm.map bkV
    have h3 : ∀ u ∈ out, ∃ a, u = Value.ref a := fun u hu => e2 u (h2.perm.mem_iff.mp hu)
    have hlen : (out.map bkV).length ≤ sizeLine := by
      rw [hp.length_eq]
      exact hz
    refine ⟨.ref _, upd H (s.heap.objs.size + 1) (.lst (out.map bkV)), I.laid (t' := s.toks) (fun _ _ => PyProof.Rows.sortedAll_old) (Nat.le_succ _) ⟨hlen, out, ep, bkV_vals h3, he'⟩, rfl, q _ _ ?_ hp (I.hok.fresh (Nat.le_succ _))⟩
    exact List.pairwise_map.mpr h1
/-! keys: ints and texts -/
def keyLt : Key → Key → Bool
  | .inl i, .inl j => decide (i < j)
  | .inl _, .inr _ => true
  | .inr _, .inl _ => false
  | .inr x, .inr y => decide (x.cps.toList < y.cps.toList)
def lexK : List Key → List Key → Bool
  | [], [] => false
  | [], _ :: _ => true
  | _ :: _, [] => false
  | x :: xs, y :: ys => if x = y then lexK xs ys else keyLt x y
/-- where they differ first stand things of one kind -/
def likeK : List Key → List Key → Bool
  | .inl i :: xs, .inl j :: ys => if i = j then likeK xs ys else true
  | .inr i :: xs, .inr j :: ys => if i = j then likeK xs ys else true
  | _ :: _, _ :: _ => false
  | _, _ => true
theorem lexV_keys : ∀ {ks ls : List Key}, likeK ks ls = true → LexV (ks.map kV) (ls.map kV) = some (lexK ks ls)
  | [], [], _ => rfl
  | [], _ :: _, _ => rfl
  | _ :: _, [], _ => by rename_i x xs _; cases x <;> rfl
  | .inl i :: xs, .inl j :: ys, h => by
    by_cases e : i = j
    · subst e
      have h' : likeK xs ys = true := by simpa [likeK] using h
      simp [LexV, lexK, kV, lexV_keys h']
    · simp [LexV, lexK, kV, keyLt, e]
  | .inr i :: xs, .inr j :: ys, h => by
    by_cases e : i = j
    · subst e
      have h' : likeK xs ys = true := by simpa [likeK] using h
      simp [LexV, lexK, kV, lexV_keys h']
    · simp [LexV, lexK, kV, keyLt, e]
  | .inl i :: xs, .inr j :: ys, h => by simp [likeK] at h
  | .inr i :: xs, .inl j :: ys, h => by simp [likeK] at h
theorem str_lt_tri {x y : Str} (h : x ≠ y) : x.cps.toList < y.cps.toList ∨ y.cps.toList < x.cps.toList := by
  have h' : x.cps.toList ≠ y.cps.toList := fun e => h (by cases x; cases y; simp only [Str.mk.injEq]; exact Array.toList_inj.mp e)
  rcases Nat.lt_or_ge 0 1 with _ | _
  · rcases Classical.em (x.cps.toList < y.cps.toList) with c | c
    · exact .inl c
    · rcases Classical.em (y.cps.toList < x.cps.toList) with d | d
      · exact .inr d
      · exact absurd (List.le_antisymm (List.not_lt.mp d) (List.not_lt.mp c)) h'
  · omega
theorem keyLt_irrefl (x : Key) : keyLt x x = false := by
  cases x with
  | inl i => simp [keyLt]
  | inr z => simp [keyLt, List.lt_irrefl]
theorem keyLt_tri {x y : Key} (h : x ≠ y) : keyLt x y = true ∨ keyLt y x = true := by
  cases x <;> cases y
  · rename_i i j
    have : i ≠ j := fun e => h (by rw [e])
    simp only [keyLt, decide_eq_true_eq]; omega
  · exact .inl rfl
  · exact .inr rfl
  · rename_i i j
    have : i ≠ j := fun e => h (by rw [e])
    simp only [keyLt, decide_eq_true_eq]; exact str_lt_tri this
theorem keyLt_trans {x y z : Key} (h1 : keyLt x y = true) (h2 : keyLt y z = true) : keyLt x z = true := by
  cases x <;> cases y <;> cases z <;> simp_all only [keyLt, decide_eq_true_eq] <;> first | omega | exact List.lt_trans h1 h2 | cases h1 | cases h2
theorem keyLt_asym {x y : Key} (h1 : keyLt x y = true) : keyLt y x = false := by
  cases h : keyLt y x with
  | false => rfl
  | true => have := keyLt_trans h1 h; rw [keyLt_irrefl] at this; cases this
theorem lexK_irrefl : ∀ ks : List Key, lexK ks ks = false
  | [] => rfl
  | x :: xs => by simp [lexK, lexK_irrefl xs]
theorem lexK_tri : ∀ {ks ls : List Key}, ks ≠ ls → lexK ks ls = true ∨ lexK ls ks = true
  | [], [], h => absurd rfl h
  | [], _ :: _, _ => .inl rfl
  | _ :: _, [], _ => .inr rfl
  | x :: xs, y :: ys, h => by
    by_cases e : x = y
    · subst e
      have : xs ≠ ys := fun z => h (by rw [z])
      simpa [lexK] using lexK_tri this
    · have e' : ¬ y = x := fun z => e z.symm
      simpa [lexK, e, e'] using keyLt_tri e
theorem lexK_trans : ∀ {ks ls ms : List Key}, lexK ks ls = true → lexK ls ms = true → lexK ks ms = true
  | [], [], _, h, _ => by cases h
  | _ :: _, [], _, h, _ => by cases h
  | _, _ :: _, [], _, h => by cases h
  | [], _ :: _, _ :: _, _, _ => rfl
  | x :: xs, y :: ys, z :: zs, h1, h2 => by
    simp only [lexK] at h1 h2 ⊢
    by_cases e1 : x = y
    · subst e1
      rw [if_pos rfl] at h1
      by_cases e2 : x = z
      · subst e2
        rw [if_pos rfl] at h2 ⊢
        exact lexK_trans h1 h2
      · rw [if_neg e2] at h2 ⊢
        exact h2
    · rw [if_neg e1] at h1
      by_cases e2 : y = z
      · subst e2
        rw [if_neg e1]
        exact h1
      · rw [if_neg e2] at h2
        have h3 := keyLt_trans h1 h2
        by_cases e3 : x = z
        · subst e3; rw [keyLt_irrefl] at h3; cases h3
        · rw [if_neg e3]; exact h3
theorem lexK_asym {ks ls : List Key} (h : lexK ks ls = true) : lexK ls ks = false := by
  cases h' : lexK ls ks with
  | false => rfl
  | true => have := lexK_trans h h'; rw [lexK_irrefl] at this; cases this
theorem swo_lexK {α : Type} (f : α → List Key) : SrtO.Swo fun x y => lexK (f x) (f y) := by
  refine ⟨fun x y h => lexK_asym h, fun x y z h1 h2 => ?_⟩
  cases h : lexK (f z) (f x) with
  | false => rfl
  | true =>
    by_cases e : f x = f y
    · rw [e] at h; rw [h] at h2; cases h2
    · rcases lexK_tri e with c | c
      · rw [lexK_trans h c] at h2; cases h2
      · rw [c] at h1; cases h1
end RT

/-! ## 13. dicts with keys that are tuples: == -/
namespace PySem.W
open PySem PySem.Calls PyProof.Rows PySem.Spec
section
variable {prog : Program} {w : World} {K : Type} [DecidableEq K] {knd : HeapKind prog w K} {A : Around} {E : Value → Shared → Prop} {s : Shared}
theorem rt_samePairs {nm : String} {a b : Addr} {ka kb : List (K × Addr × Value)} {Q : Bool → Shared → Prop} (ha : (a == sysModules) = false) (hb : (b == sysModules) = false) (hu : knd.room A)
    (da : s.heap.DictOfH knd a ka) (db : s.heap.DictOfH knd b kb) (hl : ka.length = kb.length) (hits : ∀ x ∈ ka, ∃ p, atKey kb x.1 = some p ∧ SeqAt.EqAt A s x.2.2 p.2 true) (h : Q true s) :
    wpAny (model prog w) A (Builtin.Dict.samePairs nm a b) Q E s := by
  obtain ⟨oa, es, ep, hoa, _, hda, hka, hia, hna⟩ := da
  obtain ⟨ob, es', ep', hob, _, hdb, hkb, hib, hnb⟩ := db
  have hla : es.size = ka.length := size_of_entries hka
  have hlb : es'.size = kb.length := size_of_entries hkb
  unfold Builtin.Dict.samePairs Builtin.Dict.showsAll
  rw [if_neg (show ¬ (a == sysModules) = true by rw [ha]; exact Bool.false_ne_true), if_neg (show ¬ (b == sysModules) = true by rw [hb]; exact Bool.false_ne_true)]
  refine wpAny_bind (wpAny_pure (wpAny_bind (wpAny_pure ?_)))
  refine wpAny_bind (wpAny_dictEntries hoa hda ?_)
  dsimp only
  refine wpAny_bind (wpAny_dictEntries hob hdb ?_)
  have hsz : es.size = es'.size := by omega
  rw [if_neg (by rw [hsz]; simp)]
  refine wpAny_bind (wpAny_dictEpoch hoa hda ?_)
  refine wpAny_bind ?_
  rw [Std.Legacy.Range.forIn_eq_forIn_range']
  simp only [Std.Legacy.Range.size, Nat.sub_zero, Nat.add_sub_cancel, Nat.div_one]
  refine wpAny_forIn_list _
    (fun rest q s' => s' = s ∧ q = (none, ()) ∧ ∃ i, rest = List.range' i (es.size - i) ∧ i ≤ es.size)
    _ ?_ ?_ _ _ ⟨rfl, rfl, 0, by simp, Nat.zero_le _⟩
  · rintro x rest q s' ⟨rfl, rfl, i, hr, hi⟩
    have hlt : i < es.size := by
      rcases Nat.lt_or_ge i es.size with h | h
      · exact h
      · rw [Nat.sub_eq_zero_of_le h] at hr; simp at hr
    obtain ⟨rfl, hrest⟩ : x = i ∧ rest = List.range' (i + 1) (es.size - (i + 1)) := by
      have e : es.size - i = (es.size - (i + 1)) + 1 := by omega
      rw [e, List.range'_succ] at hr
      injection hr with h1 h2
      exact ⟨h1, h2⟩
    refine wpAny_bind (wpAny_dictEntries hoa hda ?_)
    have hlt' : x < ka.length := by rw [← hla]; exact hlt
    rw [entry_at hka x, List.getElem?_eq_getElem hlt']
    obtain ⟨k, c, v, hkv⟩ : ∃ k c v, ka[x] = (k, c, v) := ⟨_, _, _, rfl⟩
    rw [hkv]
    have hmem : (k, c, v) ∈ ka := by rw [← hkv]; exact List.getElem_mem hlt'
    have hkey := hia _ hmem
    obtain ⟨p, hp, he⟩ := hits _ hmem
    show wpAny _ _ (holding [.ref c, v] _ >>= _) _ _ _
    refine wpAny_bind (wpAny_holding (wpAny_bind (wpAny_dictFind_heap hu hkey hob hdb hkb hib hnb (fun hno => ?_) (fun j p' hj => ?_))))
    · rw [atKey_none_of_get hno] at hp
      cases hp
    · have hp' := atKey_of_get hnb hj
      have ep' : p' = p := Option.some.inj (hp'.symm.trans hp)
      subst ep'
      refine wpAny_bind (wpAny_dictEntries hob hdb ?_)
      rw [entry_at hkb j, hj]
      refine wpAny_holding (he prog w _ _ ?_)
      show wpAny _ _ (if (!true) = true then _ else _) _ _ _
      rw [if_neg (by decide)]
      refine wpAny_bind (wpAny_dictEpoch hoa hda ?_)
      rw [if_neg (by simp)]
      exact wpAny_pure ⟨rfl, rfl, x + 1, hrest, hlt⟩
  · rintro q s' ⟨rfl, rfl, i, hr, hi⟩
    exact wpAny_pure h
theorem rt_eqH {a b : Addr} {ka kb : List (K × Addr × Value)} {Q : Value → Shared → Prop} (ha : (a == sysModules) = false) (hb : (b == sysModules) = false) (hr : knd.room A.in1)
    (da : s.heap.DictOfH knd a ka) (db : s.heap.DictOfH knd b kb) (hu : A.units < cLine) (hl : ka.length = kb.length) (hits : ∀ x ∈ ka, ∃ p, atKey kb x.1 = some p ∧ SeqAt.EqAt A.in1 s x.2.2 p.2 true) (h : Q (.bool true) s) :
    wpAny (model prog w) A (compareOp .Eq (.ref a) (.ref b)) Q E s := by
  refine wpAny_richCompare_same_room (op := .Eq) da.typeIs db.typeIs PySem.F.slot_dict_eq (wpAny_call_entry PySem.F.slot_dict_eq da.typeIs PySem.F.entry_dict_eq ?_ (PySem.F.args_dict_eq_2 _ _)) hu
  show wpAny _ _ (Builtin.Dict.dictSlotArgs "__eq__" ⟨[.ref a, .ref b], []⟩ >>= _) _ _ s
  refine wpAny_bind ?_
  unfold Builtin.Dict.dictSlotArgs
  refine wpAny_bind (wpAny_notOrdered_dict da.typeIs ?_)
  show wpAny _ _ (pure (Value.ref a, Value.ref b)) _ _ s
  refine wpAny_pure ?_
  refine wpAny_bind (wpAny_isInstance (T := "dict") db.typeIs PySem.F.sub_dict_dict ?_)
  simp only [Bool.not_true, Bool.false_eq_true, if_false]
  refine wpAny_bind (wpAny_pure (wpAny_bind (wpAny_pure ?_)))
  refine wpAny_bind (rt_samePairs ha hb hr da db hl hits ?_)
  refine wpAny_pure ⟨_, rfl, ?_, ?_⟩
  · exact fun x => nomatch x
  · simpa using h
theorem rt_neH {a b : Addr} {ka kb : List (K × Addr × Value)} {Q : Value → Shared → Prop} (ha : (a == sysModules) = false) (hb : (b == sysModules) = false) (hr : knd.room A.in1)
    (da : s.heap.DictOfH knd a ka) (db : s.heap.DictOfH knd b kb) (hu : A.units < cLine) (hl : ka.length = kb.length) (hits : ∀ x ∈ ka, ∃ p, atKey kb x.1 = some p ∧ SeqAt.EqAt A.in1 s x.2.2 p.2 true) (h : Q (.bool false) s) :
    wpAny (model prog w) A (compareOp .NotEq (.ref a) (.ref b)) Q E s := by
  refine wpAny_richCompare_same_room (op := .NotEq) da.typeIs db.typeIs PySem.F.slot_dict_ne (wpAny_call_entry PySem.F.slot_dict_ne da.typeIs PySem.F.entry_dict_ne ?_ (PySem.F.args_dict_ne_2 _ _)) hu
  show wpAny _ _ (Builtin.Dict.dictSlotArgs "__ne__" ⟨[.ref a, .ref b], []⟩ >>= _) _ _ s
  refine wpAny_bind ?_
  unfold Builtin.Dict.dictSlotArgs
  refine wpAny_bind (wpAny_notOrdered_dict da.typeIs ?_)
  show wpAny _ _ (pure (Value.ref a, Value.ref b)) _ _ s
  refine wpAny_pure ?_
  refine wpAny_bind (wpAny_isInstance (T := "dict") db.typeIs PySem.F.sub_dict_dict ?_)
  simp only [Bool.not_true, Bool.false_eq_true, if_false]
  refine wpAny_bind (wpAny_pure (wpAny_bind (wpAny_pure ?_)))
  refine wpAny_bind (rt_samePairs ha hb hr da db hl hits ?_)
  refine wpAny_pure ⟨_, rfl, ?_, ?_⟩
  · exact fun x => nomatch x
  · simpa using h
end
end PySem.W
namespace RT
open PySem PySem.Spec PyProof.Rows L2
def rEqT (neg : Bool) : R2 := fun x y H Q => ∃ a b ks ls, x = .ref a ∧ y = .ref b ∧ H a = some (.dT ks) ∧ H b = some (.dT ls) ∧ ks.length = ls.length ∧ (∀ p ∈ ks, valV ls p.1 = some p.2 ∧ flatB p.2 = true) ∧ Q (.bl (!neg)) H
theorem hitsT {A : Around} {s : Shared} {H : Hp} {ks ls : List (List Key × V)} {ya yb : List (List Key × Addr × Value)} (rb : L2.KT H ls yb) (ra : L2.KT H ks ya) :
    (∀ p ∈ ks, valV ls p.1 = some p.2 ∧ flatB p.2 = true) → ∀ x ∈ ya, ∃ p, atKey yb x.1 = some p ∧ SeqAt.EqAt A s x.2.2 p.2 true := by
  unfold L2.KT at ra
  induction ra with
  | nil => intro _ x hx; cases hx
  | @cons p q ps qs h t ih =>
    intro hp x hx
    obtain ⟨h1, _, h2⟩ := h
    rcases List.mem_cons.mp hx with rfl | hx
    · obtain ⟨e, f⟩ := hp p List.mem_cons_self
      have rr : RelO (some p.2) ((atKey yb p.1).map (·.2)) := by rw [← e]; exact rb.val p.1
      obtain ⟨y, hy, ry⟩ := rr.some_of
      obtain ⟨p', hp', e'⟩ := Option.map_eq_some_iff.mp hy
      rw [← h1]
      refine ⟨p', hp', ?_⟩
      rw [e']
      exact eqAt_same h2 ry f
    · exact ih (fun p' hm => hp p' (List.mem_cons_of_mem _ hm)) x hx
theorem KTlen {H : Hp} {ks : List (List Key × V)} {ya : List (List Key × Addr × Value)} (ra : L2.KT H ks ya) : ks.length = ya.length := Paired.length ra
theorem op_eqT {X : Cx} (hu : X.A.units + 1 < cLine) : OpR X (compareOp .Eq) (rEqT false) := by
  intro pins s σ H x y v u Q I rx ry h
  obtain ⟨a, b, ks, ls, rfl, rfl, ea, eb, hlen, hp, q⟩ := h
  obtain rfl : v = Value.ref a := rx
  obtain rfl : u = Value.ref b := ry
  obtain ⟨_, za, ya, ra, da⟩ := dt_of I.hok ea
  obtain ⟨_, zb, yb, rb, db⟩ := dt_of I.hok eb
  exact PySem.W.rt_eqH za zb (tupleKind_room_in1 hu) da db (by omega) (by rw [← KTlen ra, ← KTlen rb]; exact hlen) (hitsT rb ra hp) (fin_bl I q rfl)
theorem op_neT {X : Cx} (hu : X.A.units + 1 < cLine) : OpR X (compareOp .NotEq) (rEqT true) := by
  intro pins s σ H x y v u Q I rx ry h
  obtain ⟨a, b, ks, ls, rfl, rfl, ea, eb, hlen, hp, q⟩ := h
  obtain rfl : v = Value.ref a := rx
  obtain rfl : u = Value.ref b := ry
  obtain ⟨_, za, ya, ra, da⟩ := dt_of I.hok ea
  obtain ⟨_, zb, yb, rb, db⟩ := dt_of I.hok eb
  exact PySem.W.rt_neH za zb (tupleKind_room_in1 hu) da db (by omega) (by rw [← KTlen ra, ← KTlen rb]; exact hlen) (hitsT rb ra hp) (fin_bl I q rfl)
end RT

namespace RT
open PySem PySem.Spec PyProof.Rows L2
/-! ## 4. defs of the text, by name, with their promises -/
structure DefAt (K : PySem.W.Frag) (mg : Str → Option Value) (x : Str) (st : Stmt) : Prop where
  ex : ∃ f fd, mg x = some (.ref f) ∧ Fun K x x st f fd
structure Own (P : Program) (w : World) (K : PySem.W.Frag) (mg : Str → Option Value) (base : Heap) (x : Str) (k : Nat) (ps : List Str) (sp : Sp) : Prop where
  ex : ∃ f fd, mg x = some (.ref f) ∧ PySem.W.keepIn K (.ref f) = true ∧ Binds K fd ps [] ∧ FnOk P w K mg base (L2N.CX P w) k f fd ps sp
structure OwnP (P : Program) (w : World) (K : PySem.W.Frag) (mg : Str → Option Value) (base : Heap) (x : Str) (k : Nat) (ps : List Str) (sp : SpP) : Prop where
  ex : ∃ f fd, mg x = some (.ref f) ∧ PySem.W.keepIn K (.ref f) = true ∧ Binds K fd ps [] ∧ FnP P w K mg base (L2N.CX P w) k f fd ps sp
section
variable {P : Program} {w : World} {K : PySem.W.Frag} {mg : Str → Option Value} {base : Heap}
abbrev BindW (st : Stmt) (x : Str) (ps : List Str) : Prop := ∀ (kV doc pm : Value) (an : Option Addr) (cdv ct : Value) (us : List Value),
  us.length = ps.length → bindArgs (PySem.W.fnOf x x (defArgs st) (defBody st) (defScope st) .none kV doc pm an cdv ct) ⟨us, []⟩ = pure (ps.zip us)
def FnW (P : Program) (w : World) (K : PySem.W.Frag) (mg : Str → Option Value) (base : Heap) (x : Str) (st : Stmt) (k : Nat) (ps : List Str) (sp : Sp) : Prop :=
  ∀ f fd, Fun K x x st f fd → FnOk P w K mg base (L2N.CX P w) k f fd ps sp
theorem fnW_of {x : Str} {st : Stmt} {N ps : List Str} {k : Nat} {sp : Sp}
    (S : FnScope N ps (defScope st)) (len : ∀ vs H Q E, sp vs H Q E → vs.length = ps.length)
    (hbody : ∀ (f : Addr) (cdv : Value) (A : Around) (outer : List Env) (s : Shared) (H : Hp) (vs : List V) (Q : VK) (E : XK),
      Room k (A.deeper (envOfC x (defScope st) s.heap.objs.size f cdv)) → sp vs H Q E →
      ∃ t, PSs (cxOf (L2N.CX P w) P w K mg base N x (defScope st) f cdv A outer s H E) (defBody st) t ∧
        t ⟨fun _ H' => Q .non H', Q, fun _ _ => False, fun _ _ => False⟩ (L2.start N vs) H) :
    FnW P w K mg base x st (k + 1) ps sp := fun f fd F => okN F S len (hbody f)
theorem own_of {x : Str} {st : Stmt} {ps : List Str} {k : Nat} {sp : Sp} (D : DefAt K mg x st) (hb : BindW st x ps)
    (h : FnW P w K mg base x st k ps sp) : Own P w K mg base x k ps sp := by
  obtain ⟨f, fd, hm, F⟩ := D.ex
  exact ⟨f, fd, hm, F.kp, F.binds hb, h f fd F⟩
theorem law_F {st : Stmt} {x : Str} {k : Nat} {sp : Sp} {fa : Addr} (D : DefAt K mg "law" st) (hb : BindW st "law" [x])
    (h : ∀ base : Heap, K.In base → base.Ns mainGlobals mg → FnW P w K mg base "law" st k [x] sp) (hfa : mg "law" = some (.ref fa)) :
    ∃ fd : FuncData, (∀ (s : Shared) (u : Value), BindsTo s fd ⟨[u], []⟩ [(x, u)]) ∧
      ∀ base : Heap, K.In base → base.Ns mainGlobals mg → FnOk P w K mg base (L2N.CX P w) k fa fd [x] sp := by
  obtain ⟨f, fd, hm, F⟩ := D.ex
  have e := hfa.symm.trans hm
  cases e
  refine ⟨fd, fun s u => ?_, fun base h1 h2 => h base h1 h2 _ _ F⟩
  obtain ⟨oc, od, kV, doc, pm, an, cdv, ct, osl, rfl, lk, hcd⟩ := F.ex
  exact .of_eq (hb kV doc pm an cdv ct [u] rfl)
theorem noneN {P : Program} {w : World} {H : Hp} {s : Shared} {e : Value} {s' : Shared} (h : L2N.CX P w [] H s (fun _ _ _ => False) e s') : False := by
  obtain ⟨_, _, _, _, _, _, _, _, _, _, _, _, z⟩ := h
  exact z
theorem ownP_of {x : Str} {st : Stmt} {N ps : List Str} {k : Nat} {sp : SpP} (D : DefAt K mg x st) (hb : BindW st x ps)
    (S : FnScope N ps (defScope st)) (len : ∀ a c d vs H Q E, sp a c d vs H Q E → vs.length = ps.length)
    (hbody : ∀ (f : Addr) (cdv : Value) (A : Around) (outer : List Env) (s : Shared) (H : Hp) (vs : List V) (Q : VK) (E : XK) (e : Addr × Obj) (cls : Value) (d : Option Addr),
      L2H.Hot1 A e → Zc cls d e.2 → L2H.RoomH k (A.deeper (envOfC x (defScope st) s.heap.objs.size f cdv)) → sp e.1 cls d vs H Q E →
      ∃ t, PSs (L2H.cxH (L2N.CX P w) P w K mg base N x (defScope st) f cdv A outer s H E e) (defBody st) t ∧
        t ⟨fun _ H' => Q .non H', Q, fun _ _ => False, fun _ _ => False⟩ (L2.start N vs) H) :
    OwnP P w K mg base x (k + 1) ps sp := by
  obtain ⟨f, fd, hm, F⟩ := D.ex
  exact ⟨f, fd, hm, F.kp, F.binds hb, okP F S len (hbody f)⟩
end
section
variable {X : Cx} {j k : Nat} {ps : List Str} {sp : Sp} {E : L2.St → XK} {x : Str} {p pos : Pos} {e : Expr} {es : List Expr} {t : TA}
theorem pe_own (O : Own X.prog X.w X.K X.mg X.base x j ps sp) (hj : j ≤ k) (hr : Room k X.A) (hg : Gl X x)
    (hx : ∀ σ, PassesAt (L2N.CX X.prog X.w) X σ (E σ)) (ha : PA X (e :: es) t) (hdb : (x == ("__debug__" : Str)) = false := by decide)
    (he : starEach (e :: es) X.env = (false, eval e X.env) :: starEach es X.env := by rfl)
    (hpl : (backTo pos (starEach es X.env)).any (·.1) = false := by rfl) : PE X (.Call (.Name x p) (e :: es) [] pos) (tCallS sp E t) := by
  obtain ⟨f, fd, hm, hk, hb, F⟩ := O.ex
  exact pe_callS F (hr.mono hj) hg hm hk hb hx ha hdb he hpl
theorem pe_ownP {sp : SpP} {q : Addr × Obj} {cls : Value} {d : Option Addr} (O : OwnP X.prog X.w X.K X.mg X.base x j ps sp) (hj : j ≤ k) (hr : L2H.RoomH k X.A)
    (hot : L2H.Hot1 X.A q) (hp : q ∈ X.pn) (hz : Zc cls d q.2) (hg : Gl X x)
    (hx : ∀ σ, PassesAt (L2N.CX X.prog X.w) X σ (E σ)) (ha : PA X (e :: es) t) (hdb : (x == ("__debug__" : Str)) = false := by decide)
    (he : starEach (e :: es) X.env = (false, eval e X.env) :: starEach es X.env := by rfl)
    (hpl : (backTo pos (starEach es X.env)).any (·.1) = false := by rfl) : PE X (.Call (.Name x p) (e :: es) [] pos) (tCallS (sp q.1 cls d) E t) := by
  obtain ⟨f, fd, hm, hk, hb, F⟩ := O.ex
  exact pe_callP F (hr.mono hj) hot hp hz hg hm hk hb hx ha hdb he hpl
/-- a def without arguments -/
theorem pe_own0 (O : Own X.prog X.w X.K X.mg X.base x j ps sp) (hj : j ≤ k) (hr : Room k X.A) (hg : Gl X x)
    (hx : Passes (L2N.CX X.prog X.w) X E0) (hdb : (x == ("__debug__" : Str)) = false := by decide) : PE X (.Call (.Name x p) [] [] pos) (tCall sp [] E0 tNil) := by
  obtain ⟨f, fd, hm, hk, hb, F⟩ := O.ex
  exact pe_call0 F (hr.mono hj) hg hm hk hb .nil hx hdb
end
/-! ## 5. operators and looks that take what comes -/
def uAdd (K : PySem.W.Frag) : R2 := fun x y H Q =>
  (rI0 (fun i j => .int (i + j)) x y H Q ∨ ∃ i j, x = .str i ∧ y = .str j ∧ i.length + j.length ≤ sizeLine ∧ Q (.str (i ++ j)) H) ∨
  (rCat x y H Q ∨ rCatT K x y H Q)
def uMul : R2 := fun x y H Q => rI CMul (fun i j => .int (i * j)) x y H Q ∨ rRep x y H Q
def uEq (K : PySem.W.Frag) : R2 := fun x y H Q => (rEq x y H Q ∨ rEqD K x y H Q) ∨ (rEqDA x y H Q ∨ rEqT false x y H Q)
def uNe (K : PySem.W.Frag) : R2 := fun x y H Q => (rNe x y H Q ∨ rNeD K x y H Q) ∨ (rNeDA x y H Q ∨ rEqT true x y H Q)
def rIxD : R2 := fun x y H Q => ∃ a v, x = .ref a ∧ DGet H a y (some v) ∧ Q v H
def uIx (K : PySem.W.Frag) : R2 := fun x y H Q => rIx K x y H Q ∨ rIxD x y H Q
def rSetD : V → V → V → Hp → (Hp → Prop) → Prop := fun o i v H Q => ∃ a H', o = .ref a ∧ DPut H a i v H' ∧ Q H'
def uSet : V → V → V → Hp → (Hp → Prop) → Prop := fun o i v H Q => rSetL o i v H Q ∨ rSetD o i v H Q
def uSl (K : PySem.W.Frag) : V → Option Int → Option Int → Hp → VK → Prop := fun x lo hi H Q => rSlL K x lo hi H Q ∨ rSlT K x lo hi H Q
def uLen (K : PySem.W.Frag) : List V → Hp → VK → Prop := fun xs H Q =>
  ((∃ p ys, xs = [.ref p] ∧ (SqL K H p ys ∨ SqT K H p ys) ∧ Q (.int ys.length) H) ∨ ∃ z, xs = [.str z] ∧ z.length ≤ sizeLine ∧ Q (.int z.length) H) ∨
    ∃ a kvs, xs = [V.ref a] ∧ H a = some (.dK kvs) ∧ Q (.int kvs.length) H
def ItV (K : PySem.W.Frag) (x : V) (H1 : Hp) (R : It → Hp → Prop) : Prop :=
  (∃ a, x = .ref a ∧ (∃ xs, SqL K H1 a xs) ∧ R (Itl K a) H1) ∨ (∃ a, x = .ref a ∧ (∃ xs, SqT K H1 a xs) ∧ R (Itt K a) H1) ∨ ∃ z, x = .str z ∧ R (Its z) H1
def uIt (K : PySem.W.Frag) (tl : TE) : TI := fun σ H R => tl σ H fun x H1 => ItV K x H1 R
section
variable {X : Cx} {K : PySem.W.Frag} {a b : Expr} {ta tb : TE} {pos : Pos}
theorem op_uadd (hK : X.K = K := by rfl) : OpR X (binaryOp .Add) (uAdd K) := by
  subst hK
  exact OpR.or (OpR.or op_add op_add_str) (OpR.or op_cat op_catT)
theorem op_umul : OpR X (binaryOp .Mult) uMul := OpR.or op_mul op_rep
theorem op_ueq {k : Nat} (hr : L2H.RoomH k X.A) (hK : X.K = K := by rfl) : OpR X (compareOp .Eq) (uEq K) := by
  subst hK
  exact OpR.or (OpR.or op_eq (op_eqD (by have := hr.un; omega))) (OpR.or (op_eq_dictA (by have := hr.un; omega)) (op_eqT (by have := hr.un; omega)))
theorem op_une {k : Nat} (hr : L2H.RoomH k X.A) (hK : X.K = K := by rfl) : OpR X (compareOp .NotEq) (uNe K) := by
  subst hK
  exact OpR.or (OpR.or op_ne (op_neD (by have := hr.un; omega))) (OpR.or (op_ne_dictA (by have := hr.un; omega)) (op_neT (by have := hr.un; omega)))
theorem ix_dict (hu : X.A.units + 1 < cLine) : IxR X rIxD := by
  intro value slice pins s σ H x y v u Q I rx ry h hs
  obtain ⟨a, z, rfl, g, q⟩ := h
  obtain rfl : v = Value.ref a := rx
  have hT := dict_typeIs I g
  unfold subscriptTail
  refine wpAny_bind ?_
  rw [getitemInPython_of_ne hT.not_modules]
  refine wpAny_bind (wpAny_specialOf hT PySem.F.slot_dict_getitem.lookup ?_)
  have fin : wpAny (model X.prog X.w) X.A (subscripted slice false (.ref a) u)
      (fun r s₃ => wpAny (model X.prog X.w) X.A (letTemporaryGo value (.ref a) r >>= fun _ => pure r) (EP X pins σ Q) X.xe s₃) X.xe s := by
    rw [hs]
    refine wpAny_operating (d_getItem hu I g ry fun w' s3 I3 rw' => ?_)
    exact wpAny_bind (wpAny_letTemporaryGo (wpAny_pure ⟨z, H, I3, rw', q⟩))
  first
    | exact wpAny_pure (wpAny_bind fin)
    | exact wpAny_bind (wpAny_pure (wpAny_bind fin))
    | exact wpAny_bind fin
theorem units1 {k : Nat} {A : Around} (hr : L2H.RoomH k A) : A.units + 1 < cLine := by have := hr.un; omega
theorem ix_u {k : Nat} (hr : L2H.RoomH k X.A) (hK : X.K = K := by rfl) : IxR X (uIx K) := by
  subst hK
  exact IxR.or ix_seq (ix_dict (units1 hr))
theorem set_dict (hu : X.A.units + 1 < cLine) : PSet X rSetD := by
  intro pins s σ H o i v ov iv u Q I ro ri rv h
  obtain ⟨a, H', rfl, g, q⟩ := h
  obtain rfl : ov = Value.ref a := ro
  exact d_setItem hu I g ri rv fun s' I' => ⟨H', I', q⟩
theorem set_u {k : Nat} (hr : L2H.RoomH k X.A) : PSet X uSet := by
  intro pins s σ H o i v ov iv u Q I ro ri rv h
  rcases h with h | h
  · exact set_list pins s σ H o i v ov iv u Q I ro ri rv h
  · exact set_dict (units1 hr) pins s σ H o i v ov iv u Q I ro ri rv h
theorem sl_u (hK : X.K = K := by rfl) : SlR X (uSl K) := by
  subst hK
  exact SlR.or sl_list sl_tup
theorem call_ulen (hK : X.K = K := by rfl) : CallR X (.builtin "len") (uLen K) := by
  subst hK
  exact CallR.or (CallR.or call_len_seq call_len_str) call_lenD
theorem pi_u {tg l : Expr} {tl : TE} (hl : PE X l tl) (hK : X.K = K := by rfl) : PI X tg l (uIt K tl) := by
  subst hK
  constructor
  intro pins s σ H R I h
  refine thn (hl.run pins s σ H _ I h) fun v s1 hh => ?_
  obtain ⟨x, H1, I1, r1, q1⟩ := hh
  rcases q1 with ⟨a, rfl, ⟨xs, hq⟩, q⟩ | ⟨a, rfl, ⟨xs, hq⟩, q⟩ | ⟨z, rfl, q⟩
  · cases r1
    obtain ⟨its, rv, p, hz⟩ := I1.list hq
    exact wpAny_pyIter_list p.isList (pi_one (tk := s1.toks) I1 _ (turn_list a _) ⟨_, Heap.get?_push_size _ rfl, rfl, rfl⟩ q)
  · cases r1
    obtain ⟨its, rv, p, hz⟩ := I1.tuple hq
    exact wpAny_pyIter_tuple (show s1.heap.IsTuple a its.toArray from p) (pi_one (tk := s1.toks) I1 _ (turn_tuple a _) ⟨_, Heap.get?_push_size _ rfl, rfl, rfl⟩ q)
  · obtain ⟨t, rfl⟩ := r1
    cases ha : z.cps.all (· < 128)
    · exact wpAny_pyIter_wide ha (pi_one (tk := s1.toks) I1 _ (turn_str _ z t "str_iterator" (.inr rfl)) ⟨_, Heap.get?_push_size _ rfl, rfl, rfl⟩ q)
    · exact wpAny_pyIter_ascii ha (pi_one (tk := s1.toks) I1 _ (turn_str _ z t "str_ascii_iterator" (.inl rfl)) ⟨_, Heap.get?_push_size _ rfl, rfl, rfl⟩ q)
def tTru (K : PySem.W.Frag) (ta : TE) : TT := fun σ H Q => ta σ H fun x H' => ∃ k, TruV K x H' k ∧ Q k H'
theorem pt_u (ha : PE X a ta) (he : ∀ whole, isTrue a X.env whole = (do let v ← whole; standAt a.pos; holding [v] (truthy v)) := by intro _; rfl) (hK : X.K = K := by rfl) :
    PT X a (tTru K ta) := by
  subst hK
  exact pt_truth ha he
end
end RT

namespace RT
open PySem PySem.Spec PyProof.Rows L2
/-! ## 6. own errors; constants; isinstance -/
structure ExcAt (K : PySem.W.Frag) (mg : Str → Option Value) (x : Str) : Type where
  C : Addr
  g : mg x = some (.ref C)
  ex : PySem.W.excIn K C [.type "ValueError", .type "Exception", .type "BaseException", .type "object"] "ValueError.__new__" = true
  kp : PySem.W.keepIn K (.ref C) = true
  sub : PySem.W.subIn K (.ref C) (.type "BaseException") = some true
  ty : PySem.W.typeIn K (.ref C) = some (.type "type")
  cc : ExcC K C
theorem ExcAt.raises {X : Cx} {K : PySem.W.Frag} {x : Str} {mg : Str → Option Value} (h : ExcAt K mg x) (hK : X.K = K := by rfl) : Raises X (.ref h.C) := by
  subst hK
  exact raises_own h.sub h.ty
def tRaise (W : L2.WX) (cls : Value) : TS := fun _ σ H => W cls none σ H
theorem ps_raiseU {X : Cx} {K : PySem.W.Frag} {x m : Str} {mg : Str → Option Value} {W : L2.WX} {j : Nat} {p p2 pos pos2 : Pos} (h : ExcAt K mg x) (tk : L2N.Takes X W) (hc : X.calm = true := by rfl) (hK : X.K = K := by rfl) (hm : X.mg = mg := by rfl) (hg : Gl X x := by rfl)
    (hdb : (x == ("__debug__" : Str)) = false := by decide) : PS X (.Raise (some (.Call (.Name x p) [.Constant (.str m) j p2] [] pos)) none pos2) (tRaise W (.ref h.C)) := by
  subst hK hm
  exact L2N.ps_raise hc tk (L2N.pmk_own PySem.F.excBase_ValueError h.ex h.g h.kp h.raises hg hdb)
/-! a try whose clause names the error: the body and the suite are derived where they are asked -/
def tTryB (X : Cx) (body : List Stmt) (W : L2.WX) : TS := fun D σ H =>
  ∀ (pn : List (Addr × Obj)) (xe : Value → Shared → Prop), L2N.Takes (X.tr pn xe) W → PassesOwn (model X.prog X.w) X.A X.env xe →
    ∃ t, PSs (X.tr pn xe) body t ∧ t D σ H
def tTryS (X : Cx) (suite : List Stmt) (a : Addr) (cls : Value) (d : Option Addr) : TS := fun D σ H =>
  ∀ (oe : Obj) (pn : List (Addr × Obj)), L2N.Zn cls d oe → (∃ vs, oe.data = .fields vs) →
    ∃ t, PSs (X.suite a ((a, oe) :: pn)) suite t ∧ t D σ H
def tTry (X : Cx) (K : PySem.W.Frag) (c : Value) (i : Nat) (Wout : L2.WX) (body suite : List Stmt) : TS := fun D σ H =>
  tTryB X body (wAs K c i (tTryS X suite) Wout D) D σ H
theorem ps_tryU {X : Cx} {K : PySem.W.Frag} {x n : Str} {c : Value} {i : Nat} {body suite : List Stmt} {b₀ : Stmt} {np pos pos' : Pos} {Wout : L2.WX}
    (hN : X.N.Nodup) (hi : X.N[i]? = some n) (hc : Names X x c) (tk : L2N.Takes X Wout) (hs : X.stack = X.env :: X.outer := by rfl)
    (hf : X.env.frame = some X.env.locals := by rfl) (hln : X.env.kindOf n = some .local := by rfl) (hK : X.K = K := by rfl) :
    PS X (.Try body [.ExceptHandler (some (.Name x np)) (some n) (b₀ :: suite) pos'] [] [] pos) (tTry X K c i Wout body (b₀ :: suite)) := by
  subst hK
  refine L2N.ps_try_as (tb := tTryB X body) (ts := tTryS X (b₀ :: suite)) hs hf hN hi hln hc tk (fun W pn xe tk' po => ?_) (fun a oe cls d pn hz hv => ?_)
  · constructor
    intro pins s σ H D I h
    obtain ⟨t, ht, q⟩ := h pn xe tk' po
    exact ht.run pins s σ H D I q
  · constructor
    intro pins s σ H D I h
    obtain ⟨t, ht, q⟩ := h oe pn hz hv
    exact ht.run pins s σ H D I q
structure ConAt (mg : Str → Option Value) (x : Str) (v : V) : Prop where
  ex : ∃ u, mg x = some u ∧ RelV v u
theorem pe_con_ {X : Cx} {x : Str} {v : V} {pos : Pos} (h : ConAt X.mg x v) (hg : Gl X x) (hd : (x == ("__debug__" : Str)) = false := by decide) : PE X (.Name x pos) (tC v) := by
  obtain ⟨u, h1, h2⟩ := h.ex
  exact pe_glob hg h1 h2 hd
theorem hot_of {A : Around} {a : Addr} {oe : Obj} {cls : Value} {d : Option Addr} (hz : L2N.Zn cls d oe) (hf : ∃ vs, oe.data = .fields vs) : L2H.Hot1 (A.mark (some (.ref a))) (a, oe) := by
  obtain ⟨vs, hv⟩ := hf
  exact ⟨rfl, vs, hv, hz.2.2 vs hv⟩
theorem markH {k : Nat} {A : Around} {o : Option Value} (h : L2H.RoomH k A) : L2H.RoomH k (A.mark o) := ⟨h.dp, h.un⟩
theorem hot_fields {A : Around} {e : Addr × Obj} (h : L2H.Hot1 A e) : ∃ vs, e.2.data = .fields vs := by
  obtain ⟨_, vs, hv, _⟩ := h
  exact ⟨vs, hv⟩
theorem passN0 {X : Cx} : Passes (L2N.CX X.prog X.w) X E0 := fun pins σ H s e s' I h => passN σ pins H s e s' I h
/-- isinstance by a built-in type's name -/
def isF (x : V) (S : String) : Bool := match x with
  | .non => S == "NoneType"
  | .bl _ => S == "bool" || S == "int"
  | .int _ => S == "int"
  | .str _ => S == "str"
  | _ => false
theorem kits : kitB "NoneType" "int" = some false ∧ kitB "NoneType" "bool" = some false ∧ kitB "NoneType" "str" = some false ∧ kitB "NoneType" "tuple" = some false ∧ kitB "NoneType" "list" = some false ∧ kitB "NoneType" "dict" = some false := by decide +kernel
theorem kitb : kitB "bool" "int" = some true ∧ kitB "bool" "bool" = some true ∧ kitB "bool" "str" = some false ∧ kitB "bool" "tuple" = some false ∧ kitB "bool" "list" = some false ∧ kitB "bool" "dict" = some false := by decide +kernel
theorem kiti : kitB "int" "int" = some true ∧ kitB "int" "bool" = some false ∧ kitB "int" "str" = some false ∧ kitB "int" "tuple" = some false ∧ kitB "int" "list" = some false ∧ kitB "int" "dict" = some false := by decide +kernel
theorem kitt : kitB "str" "int" = some false ∧ kitB "str" "bool" = some false ∧ kitB "str" "str" = some true ∧ kitB "str" "tuple" = some false ∧ kitB "str" "list" = some false ∧ kitB "str" "dict" = some false := by decide +kernel
theorem kitu : kitB "tuple" "int" = some false ∧ kitB "tuple" "bool" = some false ∧ kitB "tuple" "str" = some false ∧ kitB "tuple" "tuple" = some true ∧ kitB "tuple" "list" = some false ∧ kitB "tuple" "dict" = some false := by decide +kernel
theorem kitl : kitB "list" "int" = some false ∧ kitB "list" "bool" = some false ∧ kitB "list" "str" = some false ∧ kitB "list" "tuple" = some false ∧ kitB "list" "list" = some true ∧ kitB "list" "dict" = some false := by decide +kernel
theorem kitd : kitB "dict" "int" = some false ∧ kitB "dict" "bool" = some false ∧ kitB "dict" "str" = some false ∧ kitB "dict" "tuple" = some false ∧ kitB "dict" "list" = some false ∧ kitB "dict" "dict" = some true := by decide +kernel
def sixT (S : String) : Prop := S = "int" ∨ S = "bool" ∨ S = "str" ∨ S = "tuple" ∨ S = "list" ∨ S = "dict"
def uIsi (K : PySem.W.Frag) : List V → Hp → VK → Prop := rIsi K
theorem call_uisi {X : Cx} {K : PySem.W.Frag} (hK : X.K = K := by rfl) : CallR X (.builtin "isinstance") (uIsi K) := by
  subst hK
  exact call_isi
theorem v_isi_flat {K : PySem.W.Frag} {x : V} {S : String} {H : Hp} {Q : VK} (f : flatV x = true) (hS : sixT S) (q : Q (.bl (isF x S)) H) : uIsi K [x, .ty S] H Q := by
  have key : ∃ t, TyX K H x (.type t) ∧ kitB t S = some (isF x S) := by
    obtain ⟨a1, a2, a3, a4, a5, a6⟩ := kits
    obtain ⟨b1, b2, b3, b4, b5, b6⟩ := kitb
    obtain ⟨c1, c2, c3, c4, c5, c6⟩ := kiti
    obtain ⟨d1, d2, d3, d4, d5, d6⟩ := kitt
    cases x with
    | non => exact ⟨_, .base .non, by rcases hS with rfl | rfl | rfl | rfl | rfl | rfl <;> assumption⟩
    | bl b => exact ⟨_, .base (.bl b), by rcases hS with rfl | rfl | rfl | rfl | rfl | rfl <;> assumption⟩
    | int i => exact ⟨_, .base (.int i), by rcases hS with rfl | rfl | rfl | rfl | rfl | rfl <;> assumption⟩
    | str z => exact ⟨_, .base (.str z), by rcases hS with rfl | rfl | rfl | rfl | rfl | rfl <;> assumption⟩
    | byt b => exact absurd f (by simp [flatV])
    | flt b => exact absurd f (by simp [flatV])
    | ref a => exact absurd f (by simp [flatV])
    | ty n => exact absurd f (by simp [flatV])
  obtain ⟨t, h1, h2⟩ := key
  exact ⟨x, .ty S, _, _, _, rfl, .ty S, h1, kit_ty h2, q⟩
theorem v_isi_tup {K : PySem.W.Frag} {a : Addr} {xs : List V} {S : String} {H : Hp} {Q : VK} (h : H a = some (.tup xs)) (hS : sixT S) (q : Q (.bl (S == "tuple")) H) : uIsi K [.ref a, .ty S] H Q := by
  obtain ⟨d1, d2, d3, d4, d5, d6⟩ := kitu
  refine ⟨_, .ty S, _, _, _, rfl, .ty S, .base (.tup h), kit_ty (?_ : _ = some (S == "tuple")), q⟩
  rcases hS with rfl | rfl | rfl | rfl | rfl | rfl <;> assumption
theorem v_isi_lst {K : PySem.W.Frag} {a : Addr} {xs : List V} {S : String} {H : Hp} {Q : VK} (h : H a = some (.lst xs)) (hS : sixT S) (q : Q (.bl (S == "list")) H) : uIsi K [.ref a, .ty S] H Q := by
  obtain ⟨d1, d2, d3, d4, d5, d6⟩ := kitl
  refine ⟨_, .ty S, _, _, _, rfl, .ty S, .base (.lst h), kit_ty (?_ : _ = some (S == "list")), q⟩
  rcases hS with rfl | rfl | rfl | rfl | rfl | rfl <;> assumption
theorem v_isi_dic {K : PySem.W.Frag} {a : Addr} {kvs : List (Key × V)} {S : String} {H : Hp} {Q : VK} (h : H a = some (.dK kvs)) (hS : sixT S) (q : Q (.bl (S == "dict")) H) : uIsi K [.ref a, .ty S] H Q := by
  obtain ⟨d1, d2, d3, d4, d5, d6⟩ := kitd
  refine ⟨_, .ty S, _, _, _, rfl, .ty S, .base (.dK h), kit_ty (?_ : _ = some (S == "dict")), q⟩
  rcases hS with rfl | rfl | rfl | rfl | rfl | rfl <;> assumption
theorem v_isi_dicT {K : PySem.W.Frag} {a : Addr} {kvs : List (List Key × V)} {S : String} {H : Hp} {Q : VK} (h : H a = some (.dT kvs)) (hS : sixT S) (q : Q (.bl (S == "dict")) H) : uIsi K [.ref a, .ty S] H Q := by
  obtain ⟨d1, d2, d3, d4, d5, d6⟩ := kitd
  refine ⟨_, .ty S, _, _, _, rfl, .ty S, .base (.dT h), kit_ty (?_ : _ = some (S == "dict")), q⟩
  rcases hS with rfl | rfl | rfl | rfl | rfl | rfl <;> assumption
theorem v_isE {K : PySem.W.Frag} {D a : Addr} {c : V} {cv : Value} {b : Bool} {H : Hp} {Q : VK} (C : ExcC K D) (hcv : ∀ u, RelV c u → u = cv)
    (hk : PySem.W.kitOne K (.ref D) cv = some b) (q : Q (.bl b) H) : uIsE K (.ref D) none a [.ref a, c] H Q := ⟨D, c, cv, b, rfl, rfl, C, rfl, hcv, hk, q⟩
/-! ## 7. more of what takes what comes -/
section
variable {X : Cx} {K : PySem.W.Frag}
def uMax (K : PySem.W.Frag) := rMax K
def uMin (K : PySem.W.Frag) := rMin K
def uSum (K : PySem.W.Frag) := rSum K
def uAll (K : PySem.W.Frag) := rAll K
def uAny (K : PySem.W.Frag) := rAny K
theorem cr_umax (hc : X.calm = true) (hK : X.K = K := by rfl) : CallR X (.builtin "max") (uMax K) := by subst hK; exact cr_max hc
theorem cr_umin (hc : X.calm = true) (hK : X.K = K := by rfl) : CallR X (.builtin "min") (uMin K) := by subst hK; exact cr_min hc
theorem cr_usum (hc : X.calm = true) (hK : X.K = K := by rfl) : CallR X (.builtin "sum") (uSum K) := by subst hK; exact cr_sum hc
theorem cr_uall (hc : X.calm = true) (hK : X.K = K := by rfl) : CallR X (.builtin "all") (uAll K) := by subst hK; exact cr_all hc
theorem cr_uany (hc : X.calm = true) (hK : X.K = K := by rfl) : CallR X (.builtin "any") (uAny K) := by subst hK; exact cr_any hc
def uMax2 : List V → Hp → VK → Prop := fun xs H Q => ∃ i j, xs = [.int i, .int j] ∧ Q (.int (if j > i then j else i)) H
def uMin2 : List V → Hp → VK → Prop := fun xs H Q => ∃ i j, xs = [.int i, .int j] ∧ Q (.int (if j < i then j else i)) H
theorem call_umax2 (hc : X.calm = true) : CallR X (.builtin "max") uMax2 := call_max2 hc
theorem call_umin2 (hc : X.calm = true) : CallR X (.builtin "min") uMin2 := call_min2 hc
def uInt1 : List V → Hp → VK → Prop := fun xs H Q => (∃ i, xs = [.int i] ∧ Q (.int i) H) ∨ ∃ k, xs = [.bl k] ∧ Q (.int (if k then 1 else 0)) H
theorem call_uint1 : CallR X (.type "int") uInt1 := call_int1
def uStrI : List V → Hp → VK → Prop := fun xs H Q => ∃ i, xs = [.int i] ∧ i.natAbs.log2 < 1920 ∧ Q (.str (toString i)) H
theorem call_ustr : CallR X (.type "str") uStrI := call_str_int
def uSorted (K : PySem.W.Frag) : List V → Hp → VK → Prop := fun vs H Q => (rSortedI K vs H Q ∨ rSortedS K vs H Q) ∨ rSortC K vs H Q
theorem cr_usorted (hK : X.K = K := by rfl) : CallR X (.builtin "sorted") (uSorted K) := by subst hK; exact CallR.or (CallR.or cr_sortedI cr_sortedS) cr_sortedC
def uLt : R2 := fun x y H Q => rI0 (fun i j => .bl (decide (i < j))) x y H Q ∨ ∃ i j, x = .str i ∧ y = .str j ∧ Q (.bl (decide (i.cps.toList < j.cps.toList))) H
theorem op_ult : OpR X (compareOp .Lt) uLt := OpR.or op_lt op_lt_str
def rInDk (neg : Bool) : R2 := fun y x H Q => ∃ a o, x = .ref a ∧ DGet H a y o ∧ Q (.bl (if neg then !o.isSome else o.isSome)) H
theorem op_inDk (hu : X.A.units + 1 < cLine) : OpR X (compareOp .In) (rInDk false) := by
  intro pins s σ H y x u v Q I ry rx h
  obtain ⟨a, o, rfl, g, q⟩ := h
  obtain rfl : v = Value.ref a := rx
  exact d_in hu I g ry fun s' I' => ⟨.bl o.isSome, H, I', rfl, q⟩
theorem op_ninDk (hu : X.A.units + 1 < cLine) : OpR X (compareOp .NotIn) (rInDk true) := by
  intro pins s σ H y x u v Q I ry rx h
  obtain ⟨a, o, rfl, g, q⟩ := h
  obtain rfl : v = Value.ref a := rx
  exact d_notIn hu I g ry fun s' I' => ⟨.bl (!o.isSome), H, I', rfl, q⟩
def rInDp (K : PySem.W.Frag) (neg : Bool) : R2 := fun x y H Q => ∃ d ds, Dp K H x d ∧ Dp K H y (.list ds) ∧ SeqAt.shaped d = true ∧ SeqAt.shaped (.list ds) = true ∧ Q (.bl (if neg then !ds.any fun z => PyData.eqv z d else ds.any fun z => PyData.eqv z d)) H
def uIn (K : PySem.W.Frag) (neg : Bool) : R2 := fun x y H Q => ((rIn K neg x y H Q ∨ rInDp K neg x y H Q) ∨ rInDk neg x y H Q) ∨
  ∃ i j, x = .str i ∧ y = .str j ∧ Q (.bl (if neg then !(!(Builtin.Str.occurrences j i 0 j.length 1).isEmpty) else !(Builtin.Str.occurrences j i 0 j.length 1).isEmpty)) H
theorem op_uin {k : Nat} (hr : L2H.RoomH k X.A) (hK : X.K = K := by rfl) : OpR X (compareOp .In) (uIn K false) := by
  subst hK
  exact OpR.or (OpR.or (OpR.or op_in_seq (L2.op_inD (by have := hr.un; omega))) (op_inDk (units1 hr))) op_in_str
theorem op_unin {k : Nat} (hr : L2H.RoomH k X.A) (hK : X.K = K := by rfl) : OpR X (compareOp .NotIn) (uIn K true) := by
  subst hK
  exact OpR.or (OpR.or (OpR.or op_notIn_seq (L2.op_notInD (by have := hr.un; omega))) (op_ninDk (units1 hr))) op_notin_str
theorem ip_uadd : PIp X .Add (ipI fun i j => i + j) := ip_add
theorem ip_usub : PIp X .Sub (ipI fun i j => i - j) := ip_sub
def uList (K : PySem.W.Frag) : List V → Hp → VK → Prop := fun xs H Q => (∃ p ys, xs = [.ref p] ∧ (SqL K H p ys ∨ SqT K H p ys) ∧ ∀ l, H l = none → Q (.ref l) (upd H l (.lst ys))) ∨ rListD xs H Q
theorem call_ulist (hc : X.calm = true) (hK : X.K = K := by rfl) : CallR X (.type "list") (uList K) := by subst hK; exact CallR.or call_list_of (call_list_dK hc)
def uTuple (K : PySem.W.Frag) : List V → Hp → VK → Prop := fun xs H Q => ∃ p ys, xs = [.ref p] ∧ ((SqL K H p ys ∧ ∀ l, H l = none → Q (.ref l) (upd H l (.tup ys))) ∨ (SqT K H p ys ∧ Q (.ref p) H))
theorem call_utuple (hK : X.K = K := by rfl) : CallR X (.type "tuple") (uTuple K) := by subst hK; exact call_tuple_of
def tNotU (t : TT) : TE := fun σ H Q => t σ H fun c H1 => Q (.bl (!c)) H1
end
/-! ## 8. heaps: what stands -/
structure Chg (S : List Addr) (H H' : Hp) : Prop where
  keep : ∀ {b o}, H b = some o → b ∉ S → H' b = some o
  tup : ∀ {b xs}, H b = some (.tup xs) → H' b = some (.tup xs)
  dom : ∀ {b}, H' b = none → H b = none
theorem Chg.refl {S : List Addr} {H : Hp} : Chg S H H := ⟨fun h _ => h, fun h => h, fun h => h⟩
theorem Chg.at {H H' : Hp} (c : Chg [] H H') {b : Addr} {o : HO} (h : H b = some o) : H' b = some o := c.keep h (by simp)
theorem Chg.same {H H' : Hp} (c : Chg [] H H') : Same H H' := fun _ _ h => c.at h
theorem Chg.mono {S S' : List Addr} {H H' : Hp} (c : Chg S H H') (h : ∀ b ∈ S, b ∈ S') : Chg S' H H' :=
  ⟨fun e n => c.keep e fun m => n (h _ m), c.tup, c.dom⟩
theorem Chg.of0 {S : List Addr} {H H' : Hp} (c : Chg [] H H') : Chg S H H' := c.mono (by simp)
theorem Chg.trans {S : List Addr} {H H1 H2 : Hp} (a : Chg S H H1) (b : Chg S H1 H2) : Chg S H H2 :=
  ⟨fun e n => b.keep (a.keep e n) n, fun e => b.tup (a.tup e), fun e => a.dom (b.dom e)⟩
/-- what is changed besides was new -/
theorem Chg.trans' {S S' : List Addr} {H H1 H2 : Hp} (a : Chg S H H1) (b : Chg S' H1 H2) (hn : ∀ l ∈ S', l ∈ S ∨ H l = none) : Chg S H H2 :=
  ⟨fun {c o} e n => b.keep (a.keep e n) fun m => (hn c m).elim n fun z => (by rw [z] at e; cases e), fun e => b.tup (a.tup e), fun e => a.dom (b.dom e)⟩
theorem Chg.new {H : Hp} {p : Addr} {o : HO} (h : H p = none) : Chg [] H (upd H p o) := by
  refine ⟨fun {b u} e _ => ?_, fun {b u} e => ?_, fun {b} e => ?_⟩
  · rw [upd_ne (ne_of_none e h)]; exact e
  · rw [upd_ne (ne_of_none e h)]; exact e
  · by_cases hb : b = p
    · subst hb; exact h
    · rw [upd_ne hb] at e; exact e
theorem Chg.set {H : Hp} {p : Addr} {o u : HO} (h : H p = some u) (hu : ∀ xs, u ≠ .tup xs) : Chg [p] H (upd H p o) := by
  refine ⟨fun {b v} e n => ?_, fun {b xs} e => ?_, fun {b} e => ?_⟩
  · rw [upd_ne (by simpa using n)]; exact e
  · have : b ≠ p := fun z => by subst z; rw [h] at e; exact hu xs (Option.some.inj e)
    rw [upd_ne this]; exact e
  · by_cases hb : b = p
    · subst hb; rw [upd_same] at e; cases e
    · rw [upd_ne hb] at e; exact e
theorem Chg.ne {S : List Addr} {H H' : Hp} (c : Chg S H H') {p q : Addr} {o : HO} (hp : H' p = none) (hq : H q = some o) : q ≠ p := by
  intro e; subst e; rw [c.dom hp] at hq; cases hq
theorem Chg.seqL {K : PySem.W.Frag} {H H' : Hp} (c : Chg [] H H') {a : Addr} {xs : List V} (h : SqL K H a xs) : SqL K H' a xs := c.same.seq h
theorem Chg.seqLS {K : PySem.W.Frag} {S : List Addr} {H H' : Hp} (c : Chg S H H') {a : Addr} {xs : List V} (h : SqL K H a xs) (n : ∀ o, H a = some o → a ∉ S) : SqL K H' a xs := by
  rcases h with (h | ⟨o, h⟩) | h
  · exact .inl (.inl (c.keep h (n _ h)))
  · exact .inl (.inr ⟨o, c.keep h (n _ h)⟩)
  · exact .inr h
theorem Chg.seqT {K : PySem.W.Frag} {H H' : Hp} (c : Chg [] H H') {a : Addr} {xs : List V} (h : SqT K H a xs) : SqT K H' a xs := by
  rcases h with (h | ⟨o, h⟩) | h
  · exact .inl (.inl (c.at h))
  · exact .inl (.inr ⟨o, c.at h⟩)
  · exact .inr h
end RT

namespace RT
open PySem PySem.Spec PyProof.Rows L2
/-! ## 9. the readings, from the left, one step a lemma -/
section
variable {t u : TS} {n : L2.St → Hp → Prop} {r : VK} {b c : L2.St → Hp → Prop} {σ : L2.St} {H : Hp} {te tf : TE} {g : TG} {Q : VK} {i : Nat} {v x y : V}
theorem v_seq (h : t ⟨u ⟨n, r, b, c⟩, r, b, c⟩ σ H) : tSeq t u ⟨n, r, b, c⟩ σ H := h
theorem v_next (h : n σ H) : tNext ⟨n, r, b, c⟩ σ H := h
theorem v_break (h : b σ H) : tBreak ⟨n, r, b, c⟩ σ H := h
theorem v_cont (h : c σ H) : tCont ⟨n, r, b, c⟩ σ H := h
theorem v_asg (h : te σ H fun x H1 => g x σ H1 n) : tAsg te g ⟨n, r, b, c⟩ σ H := h
theorem v_name {Q : L2.St → Hp → Prop} (h : Q (σ.set i (some v)) H) : gName i v σ H Q := h
theorem v_gtup {K : PySem.W.Frag} {m : Nat} {t : TGs} {a : Addr} {xs : List V} {Q : L2.St → Hp → Prop} (e : SqT K H a xs) (hl : xs.length = m) (h : t xs σ H Q) : gTup K m t (.ref a) σ H Q := ⟨a, xs, rfl, e, hl, h⟩
theorem v_gcons {t : TG} {u : TGs} {vs : List V} {Q : L2.St → Hp → Prop} (h : t v σ H fun σ' H' => u vs σ' H' Q) : gCons t u (v :: vs) σ H Q := ⟨v, vs, rfl, h⟩
theorem v_gnil {Q : L2.St → Hp → Prop} (h : Q σ H) : gNil [] σ H Q := ⟨rfl, h⟩
theorem v_drop (h : te σ H fun _ H1 => n σ H1) : tDrop te ⟨n, r, b, c⟩ σ H := h
theorem v_ret (h : te σ H r) : tRet te ⟨n, r, b, c⟩ σ H := h
theorem v_retN (h : r .non H) : tRetN ⟨n, r, b, c⟩ σ H := h
theorem v_ifs {tc : TT} (h : tc σ H fun k H1 => if k = true then t ⟨n, r, b, c⟩ σ H1 else u ⟨n, r, b, c⟩ σ H1) : tIfS tc t u ⟨n, r, b, c⟩ σ H := h
/-- where two ways meet again: what holds there -/
theorem v_join {U : L2.St → Hp → Prop} (R : L2.St → Hp → Prop) (k : ∀ σ H, R σ H → U σ H) (h : ∀ U : L2.St → Hp → Prop, (∀ σ H, R σ H → U σ H) → t ⟨U, r, b, c⟩ σ H) : t ⟨U, r, b, c⟩ σ H := h U k
theorem v_aug {ti : TIp} (h : σ[i]? = some (some x)) (q : te σ H fun y H1 => ti x y H1 fun z H2 => n (σ.set i (some z)) H2) : tAug i te ti ⟨n, r, b, c⟩ σ H := ⟨x, h, q⟩
theorem v_ipI {f : Int → Int → Int} {i j : Int} (q : Q (.int (f i j)) H) : ipI f (.int i) (.int j) H Q := ⟨_, _, rfl, rfl, q⟩
theorem v_var (h : σ[i]? = some (some v)) (q : Q v H) : tVar i σ H Q := ⟨v, h, q⟩
theorem v_c (q : Q v H) : tC v σ H Q := q
theorem v_op {rr : R2} (h : te σ H fun x H1 => tf σ H1 fun y H2 => rr x y H2 Q) : tOp rr te tf σ H Q := h
theorem v_un {rr : V → Hp → VK → Prop} (h : te σ H fun x H1 => rr x H1 Q) : tUn rr te σ H Q := h
def IsB (x : V) (P : Bool → Prop) : Prop := ∃ k, x = .bl k ∧ P k
theorem v_isb {P : Bool → Prop} {k : Bool} (h : P k) : IsB (.bl k) P := ⟨k, rfl, h⟩
theorem v_test {Q : Bool → Hp → Prop} (h : te σ H fun x H1 => IsB x fun k => Q k H1) : tTest te σ H Q := h
theorem v_tb {Q : Bool → Hp → Prop} (h : te σ H fun x H1 => IsB x fun k => Q k H1) : tB te σ H Q := h
def Tru (K : PySem.W.Frag) (x : V) (H : Hp) (P : Bool → Prop) : Prop := ∃ k, TruV K x H k ∧ P k
theorem v_tru {K : PySem.W.Frag} {Q : Bool → Hp → Prop} (h : te σ H fun x H1 => Tru K x H1 fun k => Q k H1) : tTru K te σ H Q := h
theorem v_tru_b {K : PySem.W.Frag} {P : Bool → Prop} {k : Bool} (h : P k) : Tru K (.bl k) H P := ⟨k, rfl, h⟩
theorem v_tru_i {K : PySem.W.Frag} {P : Bool → Prop} {i : Int} (h : P (i != 0)) : Tru K (.int i) H P := ⟨_, rfl, h⟩
theorem v_tru_n {K : PySem.W.Frag} {P : Bool → Prop} (h : P false) : Tru K .non H P := ⟨_, rfl, h⟩
theorem v_tru_l {K : PySem.W.Frag} {P : Bool → Prop} {a : Addr} {xs : List V} (hl : SqL K H a xs) (h : P (!xs.isEmpty)) : Tru K (.ref a) H P := ⟨_, .inl ⟨xs, hl, rfl⟩, h⟩
theorem v_tru_t {K : PySem.W.Frag} {P : Bool → Prop} {a : Addr} {xs : List V} (hl : SqT K H a xs) (h : P (!xs.isEmpty)) : Tru K (.ref a) H P := ⟨_, .inr (.inl ⟨xs, hl, rfl⟩), h⟩
theorem v_and {t u : TT} {Q : Bool → Hp → Prop} (h : t σ H fun k H1 => if k = true then u σ H1 Q else Q false H1) : tAnd t u σ H Q := h
theorem v_or {t u : TT} {Q : Bool → Hp → Prop} (h : t σ H fun k H1 => if k = true then Q true H1 else u σ H1 Q) : tOr t u σ H Q := h
theorem v_not {t : TT} {Q : Bool → Hp → Prop} (h : t σ H fun k H1 => Q (!k) H1) : tNot t σ H Q := h
theorem v_notU {t : TT} (h : t σ H fun k H1 => Q (.bl (!k)) H1) : tNotU t σ H Q := h
theorem v_andV (h : te σ H fun x H1 => IsB x fun k => if k = true then tf σ H1 Q else Q (.bl false) H1) : tAndV te tf σ H Q := h
theorem v_orV (h : te σ H fun x H1 => IsB x fun k => if k = true then Q (.bl true) H1 else tf σ H1 Q) : tOrV te tf σ H Q := h
theorem v_ifE {t : TT} (h : t σ H fun k H1 => if k = true then te σ H1 Q else tf σ H1 Q) : tIf t te tf σ H Q := h
theorem v_chain {rr rs : R2} {tg : TE} (h : te σ H fun x H1 => tf σ H1 fun y H2 => rr x y H2 fun z H3 => IsB z fun k => if k = true then tg σ H3 fun w' H4 => rs y w' H4 Q else Q (.bl false) H3) : tChain rr rs te tf tg σ H Q := h
theorem v_nil {Q : List V → Hp → Prop} (h : Q [] H) : tNil σ H Q := h
theorem v_cons {tr : TA} {Q : List V → Hp → Prop} (h : te σ H fun x H1 => tr σ H1 fun xs H2 => Q (x :: xs) H2) : tCons te tr σ H Q := h
theorem v_callS {sp : Sp} {E : L2.St → XK} {ta : TA} (h : ta σ H fun vs H1 => sp vs H1 Q (E σ)) : tCallS sp E ta σ H Q := h
theorem v_call {sp : Sp} {E : XK} {ta : TA} (h : ta σ H fun vs H1 => sp (vs ++ []) H1 Q E) : tCall sp [] E ta σ H Q := h
theorem v_cb {rr : List V → Hp → VK → Prop} {ta : TA} (h : ta σ H fun vs H1 => rr vs H1 Q) : tCB rr ta σ H Q := h
def BM (K : PySem.W.Frag) (T : String) (x : V) (H : Hp) (P : Prop) : Prop := tyV K T x H ∧ P
theorem v_bm {K : PySem.W.Frag} {T : String} {rr : V → List V → Hp → VK → Prop} {ta : TA} (h : te σ H fun x H1 => BM K T x H1 (ta σ H1 fun xs H2 => rr x xs H2 Q)) : tBM K T rr te ta σ H Q := h
theorem v_bm0 {K : PySem.W.Frag} {T : String} {rr : V → List V → Hp → VK → Prop} (h : te σ H fun x H1 => BM K T x H1 (rr x [] H1 Q)) : tBM0 K T rr te σ H Q := h
theorem v_bml {K : PySem.W.Frag} {p : Addr} {xs : List V} {P : Prop} (h : SqL K H p xs) (q : P) : BM K "list" (.ref p) H P := ⟨.inl ⟨rfl, xs, h⟩, q⟩
theorem v_bms {K : PySem.W.Frag} {z : Str} {P : Prop} (q : P) : BM K "str" (.str z) H P := ⟨rfl, q⟩
def NewL (xs : List V) (H : Hp) (Q : VK) : Prop := xs.length ≤ sizeLine ∧ ∀ p, H p = none → Q (.ref p) (upd H p (.lst xs))
def NewT (xs : List V) (H : Hp) (Q : VK) : Prop := xs.length ≤ sizeLine ∧ ∀ p, H p = none → Q (.ref p) (upd H p (.tup xs))
theorem v_lst {ta : TA} (h : ta σ H fun xs H1 => NewL xs H1 Q) : tLst ta σ H Q := h
theorem v_tup {ta : TA} (h : ta σ H fun xs H1 => NewT xs H1 Q) : tTup ta σ H Q := h
theorem v_newL {xs : List V} (hl : xs.length ≤ sizeLine) (h : ∀ p H', H p = none → Chg [] H H' → H' p = some (.lst xs) → Q (.ref p) H') : NewL xs H Q :=
  ⟨hl, fun p hp => h p _ hp (.new hp) upd_same⟩
theorem v_newT {xs : List V} (hl : xs.length ≤ sizeLine) (h : ∀ p H', H p = none → Chg [] H H' → H' p = some (.tup xs) → Q (.ref p) H') : NewT xs H Q :=
  ⟨hl, fun p hp => h p _ hp (.new hp) upd_same⟩
theorem v_iteT {A B : Prop} (h : A) : if true = true then A else B := by rw [if_pos rfl]; exact h
theorem v_iteF {A B : Prop} (h : B) : if false = true then A else B := by rw [if_neg Bool.false_ne_true]; exact h
theorem v_iteD {p A B : Prop} [Decidable p] (h1 : p → A) (h2 : ¬ p → B) : if decide p = true then A else B := by
  by_cases h : p
  · rw [decide_eq_true h]; exact v_iteT (h1 h)
  · rw [decide_eq_false h]; exact v_iteF (h2 h)
theorem v_iteN {p A B : Prop} [Decidable p] (h1 : ¬ p → A) (h2 : p → B) : if (!decide p) = true then A else B := by
  by_cases h : p
  · rw [decide_eq_true h]; exact v_iteF (h2 h)
  · rw [decide_eq_false h]; exact v_iteT (h1 h)
theorem v_iteNT {A B : Prop} (h : B) : if (!true) = true then A else B := v_iteF h
theorem v_iteNF {A B : Prop} (h : A) : if (!false) = true then A else B := v_iteT h
theorem v_iteB {k : Bool} {A B : Prop} (h1 : k = true → A) (h2 : k = false → B) : if k = true then A else B := by
  cases k
  · exact v_iteF (h2 rfl)
  · exact v_iteT (h1 rfl)
theorem v_iteNB {k : Bool} {A B : Prop} (h1 : k = false → A) (h2 : k = true → B) : if (!k) = true then A else B := by
  cases k
  · exact v_iteT (h1 rfl)
  · exact v_iteF (h2 rfl)
def IsI (x : V) (P : Int → Prop) : Prop := ∃ i, x = .int i ∧ P i
/-- by values -/
theorem v_rI0 {f : Int → Int → V} {i j : Int} (q : Q (f i j) H) : rI0 f (.int i) (.int j) H Q := ⟨_, _, rfl, rfl, q⟩
theorem v_rI {C : Int → Int → Prop} {f : Int → Int → V} {i j : Int} (hc : C i j) (q : Q (f i j) H) : rI C f (.int i) (.int j) H Q := ⟨_, _, rfl, rfl, hc, q⟩
theorem v_rU {f : Int → V} {i : Int} (q : Q (f i) H) : rU f (.int i) H Q := ⟨_, rfl, q⟩
variable {K : PySem.W.Frag}
theorem v_add_ii {i j : Int} (q : Q (.int (i + j)) H) : uAdd K (.int i) (.int j) H Q := .inl (.inl ⟨_, _, rfl, rfl, q⟩)
theorem v_add_ss {i j : Str} (hl : i.length + j.length ≤ sizeLine) (q : Q (.str (i ++ j)) H) : uAdd K (.str i) (.str j) H Q := .inl (.inr ⟨_, _, rfl, rfl, hl, q⟩)
theorem v_add_ll {a b : Addr} {xs ys : List V} (h1 : H a = some (.lst xs)) (h2 : H b = some (.lst ys)) (hl : xs.length + ys.length ≤ sizeLine)
    (q : ∀ p H', H p = none → Chg [] H H' → H' p = some (.lst (xs ++ ys)) → Q (.ref p) H') : uAdd K (.ref a) (.ref b) H Q :=
  .inr (.inl ⟨a, b, xs, ys, rfl, rfl, h1, h2, hl, fun p hp => q p _ hp (.new hp) upd_same⟩)
theorem v_mul_ii {i j : Int} (hc : CMul i j) (q : Q (.int (i * j)) H) : uMul (.int i) (.int j) H Q := .inl ⟨_, _, rfl, rfl, hc, q⟩
theorem v_eq_ii {i j : Int} (q : Q (.bl (decide (i = j))) H) : uEq K (.int i) (.int j) H Q := .inl (.inl ⟨rfl, by rw [dec_int, show (i == j) = decide (i = j) from rfl]; exact q⟩)
theorem v_ne_ii {i j : Int} (q : Q (.bl (!decide (i = j))) H) : uNe K (.int i) (.int j) H Q := .inl (.inl ⟨rfl, by rw [dec_int, show (i == j) = decide (i = j) from rfl]; exact q⟩)
theorem v_eq_ss {i j : Str} (q : Q (.bl (decide (i = j))) H) : uEq K (.str i) (.str j) H Q := .inl (.inl ⟨rfl, by rw [dec_str, show (i == j) = decide (i = j) from rfl]; exact q⟩)
theorem v_ne_ss {i j : Str} (q : Q (.bl (!decide (i = j))) H) : uNe K (.str i) (.str j) H Q := .inl (.inl ⟨rfl, by rw [dec_str, show (i == j) = decide (i = j) from rfl]; exact q⟩)
theorem v_eq_d {x y : V} {d e : PyData} (h1 : Dp K H x d) (h2 : Dp K H y e) (s1 : SeqAt.shaped d = true) (s2 : SeqAt.shaped e = true) (q : Q (.bl (PyData.eqv d e)) H) : uEq K x y H Q := .inl (.inr ⟨d, e, h1, h2, s1, s2, q⟩)
theorem v_ne_d {x y : V} {d e : PyData} (h1 : Dp K H x d) (h2 : Dp K H y e) (s1 : SeqAt.shaped d = true) (s2 : SeqAt.shaped e = true) (q : Q (.bl (!PyData.eqv d e)) H) : uNe K x y H Q := .inl (.inr ⟨d, e, h1, h2, s1, s2, q⟩)
theorem v_eq_bb {i j : Bool} (q : Q (.bl (i == j)) H) : uEq K (.bl i) (.bl j) H Q := .inl (.inl ⟨rfl, by rw [dec_bl]; exact q⟩)
theorem v_ne_bb {i j : Bool} (q : Q (.bl (!(i == j))) H) : uNe K (.bl i) (.bl j) H Q := .inl (.inl ⟨rfl, by rw [dec_bl]; exact q⟩)
theorem v_bits (h : te σ H fun x H1 => IsI x fun i => Q (.int (Builtin.Int.intBits i : Nat)) H1) : tBits te σ H Q := h
theorem v_lt_ii {i j : Int} (q : Q (.bl (decide (i < j))) H) : uLt (.int i) (.int j) H Q := .inl ⟨_, _, rfl, rfl, q⟩
theorem v_len_l {a : Addr} {xs : List V} (h : SqL K H a xs) (q : Q (.int xs.length) H) : uLen K [.ref a] H Q := .inl (.inl ⟨a, xs, rfl, .inl h, q⟩)
theorem v_len_t {a : Addr} {xs : List V} (h : SqT K H a xs) (q : Q (.int xs.length) H) : uLen K [.ref a] H Q := .inl (.inl ⟨a, xs, rfl, .inr h, q⟩)
theorem v_len_s {z : Str} (h : z.length ≤ sizeLine) (q : Q (.int z.length) H) : uLen K [.str z] H Q := .inl (.inr ⟨z, rfl, h, q⟩)
theorem v_ix_l {a : Addr} {xs : List V} {i : Int} {v : V} (h : SqL K H a xs) (hi : atI xs i = some v) (q : Q v H) : uIx K (.ref a) (.int i) H Q := .inl (.inl ⟨a, xs, i, v, rfl, rfl, h, hi, q⟩)
theorem v_ix_t {a : Addr} {xs : List V} {i : Int} {v : V} (h : SqT K H a xs) (hi : atI xs i = some v) (q : Q v H) : uIx K (.ref a) (.int i) H Q := .inl (.inr (.inl ⟨a, xs, i, v, rfl, rfl, h, hi, q⟩))
theorem v_ix_s {z : Str} {i : Int} {c : Nat} (hl : z.length ≤ sizeLine) (hi : atI z.cps.toList i = some c) (q : Q (.str ⟨#[c]⟩) H) : uIx K (.str z) (.int i) H Q := .inl (.inr (.inr ⟨z, i, c, rfl, rfl, hl, hi, q⟩))
theorem v_in_l {a : Addr} {xs : List V} {x : V} (h : SqL K H a xs) (fx : flatV x = true) (fs : xs.all flatV = true) (q : Q (.bl (inV x xs)) H) : uIn K false x (.ref a) H Q := .inl (.inl (.inl ⟨a, xs, rfl, .inl h, fx, fs, q⟩))
theorem v_nin_l {a : Addr} {xs : List V} {x : V} (h : SqL K H a xs) (fx : flatV x = true) (fs : xs.all flatV = true) (q : Q (.bl (!inV x xs)) H) : uIn K true x (.ref a) H Q := .inl (.inl (.inl ⟨a, xs, rfl, .inl h, fx, fs, q⟩))
theorem v_in_t {a : Addr} {xs : List V} {x : V} (h : SqT K H a xs) (fx : flatV x = true) (fs : xs.all flatV = true) (q : Q (.bl (inV x xs)) H) : uIn K false x (.ref a) H Q := .inl (.inl (.inl ⟨a, xs, rfl, .inr h, fx, fs, q⟩))
theorem v_in_d {a : Addr} {y : V} {o : Option V} (g : DGet H a y o) (q : Q (.bl o.isSome) H) : uIn K false y (.ref a) H Q := .inl (.inr ⟨a, o, rfl, g, q⟩)
theorem v_nin_d {a : Addr} {y : V} {o : Option V} (g : DGet H a y o) (q : Q (.bl (!o.isSome)) H) : uIn K true y (.ref a) H Q := .inl (.inr ⟨a, o, rfl, g, q⟩)
theorem inV_strs (z : Str) (zs : List Str) : inV (.str z) (zs.map V.str) = decide (z ∈ zs) := by
  unfold inV
  induction zs with
  | nil => rfl
  | cons y zs ih =>
    rw [List.map_cons, List.any_cons, ih, show eqV (.str y) (.str z) = (y == z) from rfl]
    by_cases h : y = z
    · subst h; simp
    · have h' : ¬ z = y := fun e => h e.symm
      simp [h, h']
theorem flat_strs (zs : List Str) : (zs.map V.str).all flatV = true := by rw [List.all_map]; exact List.all_eq_true.mpr fun _ _ => rfl
theorem flat_ints (zs : List Int) : (zs.map V.int).all flatV = true := by rw [List.all_map]; exact List.all_eq_true.mpr fun _ _ => rfl
theorem cut_mem {xs : List V} {lo hi : Option Int} {x : V} (h : x ∈ cutV xs lo hi) : x ∈ xs := List.mem_of_mem_drop (List.mem_of_mem_take h)
/-- an item at some place -/
theorem atI_some {α : Type} {xs : List α} {i : Int} (h0 : 0 ≤ i) (h1 : i < xs.length) : ∃ v, atI xs i = some v ∧ xs[i.toNat]? = some v := by
  obtain ⟨k, rfl⟩ := Int.eq_ofNat_of_zero_le h0
  have hk : k < xs.length := by omega
  exact ⟨xs[k], atI_nat (List.getElem?_eq_getElem hk), by simpa using List.getElem?_eq_getElem hk⟩
theorem v_ix_lany {a : Addr} {xs : List V} {i : Int} (h : SqL K H a xs) (h0 : 0 ≤ i) (h1 : i < xs.length) (q : ∀ v, xs[i.toNat]? = some v → Q v H) : uIx K (.ref a) (.int i) H Q := by
  obtain ⟨v, e1, e2⟩ := atI_some (xs := xs) h0 h1
  exact v_ix_l h e1 (q v e2)
theorem v_ix_tany {a : Addr} {xs : List V} {i : Int} (h : SqT K H a xs) (h0 : 0 ≤ i) (h1 : i < xs.length) (q : ∀ v, xs[i.toNat]? = some v → Q v H) : uIx K (.ref a) (.int i) H Q := by
  obtain ⟨v, e1, e2⟩ := atI_some (xs := xs) h0 h1
  exact v_ix_t h e1 (q v e2)
theorem v_sl_l {a : Addr} {xs : List V} {lo hi : Option Int} (h : SqL K H a xs) (q : ∀ p H', H p = none → Chg [] H H' → H' p = some (.lst (cutV xs lo hi)) → Q (.ref p) H') : uSl K (.ref a) lo hi H Q :=
  .inl ⟨a, xs, rfl, h, fun p hp => q p _ hp (.new hp) upd_same⟩
theorem v_sl {rr : V → Option Int → Option Int → Hp → VK → Prop} {tl th : TO} (h : te σ H fun x H1 => tl σ H1 fun l H2 => th σ H2 fun u H3 => rr x l u H3 Q) : tSl rr te tl th σ H Q := h
theorem v_nopart {Q : Option Int → Hp → Prop} (h : Q none H) : tNoPart σ H Q := h
theorem v_isi {P : Int → Prop} {i : Int} (h : P i) : IsI (.int i) P := ⟨i, rfl, h⟩
theorem v_part {Q : Option Int → Hp → Prop} (h : te σ H fun x H1 => IsI x fun i => Q (some i) H1) : tPart te σ H Q := h
theorem v_append {a : Addr} {xs : List V} {y : V} (h : H a = some (.lst xs)) (hl : xs.length < sizeLine) (q : ∀ H', Chg [a] H H' → H' a = some (.lst (xs ++ [y])) → Q .non H') : rAppend (.ref a) [y] H Q :=
  ⟨a, xs, y, rfl, rfl, h, hl, q _ (.set h (by intro _ e; cases e)) upd_same⟩
theorem v_cnt {a : Addr} {xs : List V} {y : V} (h : SqL K H a xs) (fy : flatV y = true) (fx : xs.all flatV = true) (q : Q (.int (xs.countP fun z => eqV z y : Nat)) H) : uCnt K (.ref a) [y] H Q := ⟨a, xs, y, rfl, rfl, h, fy, fx, q⟩
theorem v_max2 {i j : Int} (q : Q (.int (if j > i then j else i)) H) : uMax2 [.int i, .int j] H Q := ⟨_, _, rfl, q⟩
theorem v_min2 {i j : Int} (q : Q (.int (if j < i then j else i)) H) : uMin2 [.int i, .int j] H Q := ⟨_, _, rfl, q⟩
theorem v_int_i {i : Int} (q : Q (.int i) H) : uInt1 [.int i] H Q := .inl ⟨_, rfl, q⟩
theorem v_int_b {k : Bool} (q : Q (.int (if k then 1 else 0)) H) : uInt1 [.bl k] H Q := .inr ⟨_, rfl, q⟩
theorem v_sorted_i {a : Addr} {ns : List Int} (h : SqL K H a (ns.map V.int)) (q : ∀ (ms : List Int) p H', ms.Perm ns → ms.Pairwise (· ≤ ·) → H p = none → Chg [] H H' → H' p = some (.lst (ms.map V.int)) → Q (.ref p) H') : uSorted K [.ref a] H Q :=
  .inl (.inl ⟨a, ns, rfl, h, fun ms p h1 h2 hp => q ms p _ h1 h2 hp (.new hp) upd_same⟩)
theorem v_max_i {a : Addr} {ns : List Int} (h : SqL K H a (ns.map V.int)) (hn : 0 < ns.length) (q : ∀ m, m ∈ ns → (∀ y, y ∈ ns → y ≤ m) → Q (.int m) H) : uMax K [.ref a] H Q := ⟨a, ns, rfl, h, hn, q⟩
end
theorem v_raise {W : L2.WX} {D : Ends} {cls : Value} {σ : L2.St} {H : Hp} (h : W cls none σ H) : tRaise W cls D σ H := h
theorem v_isi_i_int {K : PySem.W.Frag} {i : Int} {H : Hp} {Q : VK} (q : Q (.bl true) H) : uIsi K [(.int i), .ty "int"] H Q := v_isi_flat rfl (by simp [sixT]) q
theorem v_isi_i_bool {K : PySem.W.Frag} {i : Int} {H : Hp} {Q : VK} (q : Q (.bl false) H) : uIsi K [(.int i), .ty "bool"] H Q := v_isi_flat rfl (by simp [sixT]) q
theorem v_isi_i_str {K : PySem.W.Frag} {i : Int} {H : Hp} {Q : VK} (q : Q (.bl false) H) : uIsi K [(.int i), .ty "str"] H Q := v_isi_flat rfl (by simp [sixT]) q
theorem v_isi_i_tuple {K : PySem.W.Frag} {i : Int} {H : Hp} {Q : VK} (q : Q (.bl false) H) : uIsi K [(.int i), .ty "tuple"] H Q := v_isi_flat rfl (by simp [sixT]) q
theorem v_isi_i_list {K : PySem.W.Frag} {i : Int} {H : Hp} {Q : VK} (q : Q (.bl false) H) : uIsi K [(.int i), .ty "list"] H Q := v_isi_flat rfl (by simp [sixT]) q
theorem v_isi_i_dict {K : PySem.W.Frag} {i : Int} {H : Hp} {Q : VK} (q : Q (.bl false) H) : uIsi K [(.int i), .ty "dict"] H Q := v_isi_flat rfl (by simp [sixT]) q
theorem v_isi_b_int {K : PySem.W.Frag} {i : Bool} {H : Hp} {Q : VK} (q : Q (.bl true) H) : uIsi K [(.bl i), .ty "int"] H Q := v_isi_flat rfl (by simp [sixT]) q
theorem v_isi_b_bool {K : PySem.W.Frag} {i : Bool} {H : Hp} {Q : VK} (q : Q (.bl true) H) : uIsi K [(.bl i), .ty "bool"] H Q := v_isi_flat rfl (by simp [sixT]) q
theorem v_isi_b_str {K : PySem.W.Frag} {i : Bool} {H : Hp} {Q : VK} (q : Q (.bl false) H) : uIsi K [(.bl i), .ty "str"] H Q := v_isi_flat rfl (by simp [sixT]) q
theorem v_isi_b_tuple {K : PySem.W.Frag} {i : Bool} {H : Hp} {Q : VK} (q : Q (.bl false) H) : uIsi K [(.bl i), .ty "tuple"] H Q := v_isi_flat rfl (by simp [sixT]) q
theorem v_isi_b_list {K : PySem.W.Frag} {i : Bool} {H : Hp} {Q : VK} (q : Q (.bl false) H) : uIsi K [(.bl i), .ty "list"] H Q := v_isi_flat rfl (by simp [sixT]) q
theorem v_isi_b_dict {K : PySem.W.Frag} {i : Bool} {H : Hp} {Q : VK} (q : Q (.bl false) H) : uIsi K [(.bl i), .ty "dict"] H Q := v_isi_flat rfl (by simp [sixT]) q
theorem v_isi_s_int {K : PySem.W.Frag} {i : Str} {H : Hp} {Q : VK} (q : Q (.bl false) H) : uIsi K [(.str i), .ty "int"] H Q := v_isi_flat rfl (by simp [sixT]) q
theorem v_isi_s_bool {K : PySem.W.Frag} {i : Str} {H : Hp} {Q : VK} (q : Q (.bl false) H) : uIsi K [(.str i), .ty "bool"] H Q := v_isi_flat rfl (by simp [sixT]) q
theorem v_isi_s_str {K : PySem.W.Frag} {i : Str} {H : Hp} {Q : VK} (q : Q (.bl true) H) : uIsi K [(.str i), .ty "str"] H Q := v_isi_flat rfl (by simp [sixT]) q
theorem v_isi_s_tuple {K : PySem.W.Frag} {i : Str} {H : Hp} {Q : VK} (q : Q (.bl false) H) : uIsi K [(.str i), .ty "tuple"] H Q := v_isi_flat rfl (by simp [sixT]) q
theorem v_isi_s_list {K : PySem.W.Frag} {i : Str} {H : Hp} {Q : VK} (q : Q (.bl false) H) : uIsi K [(.str i), .ty "list"] H Q := v_isi_flat rfl (by simp [sixT]) q
theorem v_isi_s_dict {K : PySem.W.Frag} {i : Str} {H : Hp} {Q : VK} (q : Q (.bl false) H) : uIsi K [(.str i), .ty "dict"] H Q := v_isi_flat rfl (by simp [sixT]) q
theorem v_isi_n_int {K : PySem.W.Frag}  {H : Hp} {Q : VK} (q : Q (.bl false) H) : uIsi K [.non, .ty "int"] H Q := v_isi_flat rfl (by simp [sixT]) q
theorem v_isi_n_bool {K : PySem.W.Frag}  {H : Hp} {Q : VK} (q : Q (.bl false) H) : uIsi K [.non, .ty "bool"] H Q := v_isi_flat rfl (by simp [sixT]) q
theorem v_isi_n_str {K : PySem.W.Frag}  {H : Hp} {Q : VK} (q : Q (.bl false) H) : uIsi K [.non, .ty "str"] H Q := v_isi_flat rfl (by simp [sixT]) q
theorem v_isi_n_tuple {K : PySem.W.Frag}  {H : Hp} {Q : VK} (q : Q (.bl false) H) : uIsi K [.non, .ty "tuple"] H Q := v_isi_flat rfl (by simp [sixT]) q
theorem v_isi_n_list {K : PySem.W.Frag}  {H : Hp} {Q : VK} (q : Q (.bl false) H) : uIsi K [.non, .ty "list"] H Q := v_isi_flat rfl (by simp [sixT]) q
theorem v_isi_n_dict {K : PySem.W.Frag}  {H : Hp} {Q : VK} (q : Q (.bl false) H) : uIsi K [.non, .ty "dict"] H Q := v_isi_flat rfl (by simp [sixT]) q
theorem v_isi_t_int {K : PySem.W.Frag} {a : Addr} {xs : List V} {H : Hp} {Q : VK} (h : H a = some (.tup xs)) (q : Q (.bl false) H) : uIsi K [.ref a, .ty "int"] H Q := v_isi_tup h (by simp [sixT]) q
theorem v_isi_t_bool {K : PySem.W.Frag} {a : Addr} {xs : List V} {H : Hp} {Q : VK} (h : H a = some (.tup xs)) (q : Q (.bl false) H) : uIsi K [.ref a, .ty "bool"] H Q := v_isi_tup h (by simp [sixT]) q
theorem v_isi_t_str {K : PySem.W.Frag} {a : Addr} {xs : List V} {H : Hp} {Q : VK} (h : H a = some (.tup xs)) (q : Q (.bl false) H) : uIsi K [.ref a, .ty "str"] H Q := v_isi_tup h (by simp [sixT]) q
theorem v_isi_t_tuple {K : PySem.W.Frag} {a : Addr} {xs : List V} {H : Hp} {Q : VK} (h : H a = some (.tup xs)) (q : Q (.bl true) H) : uIsi K [.ref a, .ty "tuple"] H Q := v_isi_tup h (by simp [sixT]) q
theorem v_isi_t_list {K : PySem.W.Frag} {a : Addr} {xs : List V} {H : Hp} {Q : VK} (h : H a = some (.tup xs)) (q : Q (.bl false) H) : uIsi K [.ref a, .ty "list"] H Q := v_isi_tup h (by simp [sixT]) q
theorem v_isi_t_dict {K : PySem.W.Frag} {a : Addr} {xs : List V} {H : Hp} {Q : VK} (h : H a = some (.tup xs)) (q : Q (.bl false) H) : uIsi K [.ref a, .ty "dict"] H Q := v_isi_tup h (by simp [sixT]) q
theorem v_isi_l_int {K : PySem.W.Frag} {a : Addr} {xs : List V} {H : Hp} {Q : VK} (h : H a = some (.lst xs)) (q : Q (.bl false) H) : uIsi K [.ref a, .ty "int"] H Q := v_isi_lst h (by simp [sixT]) q
theorem v_isi_l_bool {K : PySem.W.Frag} {a : Addr} {xs : List V} {H : Hp} {Q : VK} (h : H a = some (.lst xs)) (q : Q (.bl false) H) : uIsi K [.ref a, .ty "bool"] H Q := v_isi_lst h (by simp [sixT]) q
theorem v_isi_l_str {K : PySem.W.Frag} {a : Addr} {xs : List V} {H : Hp} {Q : VK} (h : H a = some (.lst xs)) (q : Q (.bl false) H) : uIsi K [.ref a, .ty "str"] H Q := v_isi_lst h (by simp [sixT]) q
theorem v_isi_l_tuple {K : PySem.W.Frag} {a : Addr} {xs : List V} {H : Hp} {Q : VK} (h : H a = some (.lst xs)) (q : Q (.bl false) H) : uIsi K [.ref a, .ty "tuple"] H Q := v_isi_lst h (by simp [sixT]) q
theorem v_isi_l_list {K : PySem.W.Frag} {a : Addr} {xs : List V} {H : Hp} {Q : VK} (h : H a = some (.lst xs)) (q : Q (.bl true) H) : uIsi K [.ref a, .ty "list"] H Q := v_isi_lst h (by simp [sixT]) q
theorem v_isi_l_dict {K : PySem.W.Frag} {a : Addr} {xs : List V} {H : Hp} {Q : VK} (h : H a = some (.lst xs)) (q : Q (.bl false) H) : uIsi K [.ref a, .ty "dict"] H Q := v_isi_lst h (by simp [sixT]) q
/-! dicts -/
section
variable {H : Hp} {Q : VK} {K : PySem.W.Frag} {a : Addr} {kvs : List (Key × V)}
theorem v_ix_d {y v : V} (g : DGet H a y (some v)) (q : Q v H) : uIx K (.ref a) y H Q := .inr ⟨a, v, rfl, g, q⟩
theorem v_set_d {y v : V} {k : Key} {Q : Hp → Prop} (e : H a = some (.dK kvs)) (hy : y = kV k) (hl : kvs.length < sizeLine) (q : ∀ H', Chg [a] H H' → H' a = some (.dK (putK kvs k v)) → Q H') : uSet (.ref a) y v H Q := by
  subst hy
  exact .inr ⟨a, _, rfl, DPut.k e hl, q _ (Chg.set e (by intro _ z; cases z)) upd_same⟩
theorem v_set_t {v : V} {kvs : List (List Key × V)} {k : List Key} {b : Addr} {Q : Hp → Prop} (e : H a = some (.dT kvs)) (eb : H b = some (.tup (k.map kV))) (hl : kvs.length < sizeLine) (q : ∀ H', Chg [a] H H' → H' a = some (.dT (putK kvs k v)) → Q H') : uSet (.ref a) (.ref b) v H Q :=
  .inr ⟨a, _, rfl, DPut.t e eb hl, q _ (Chg.set e (by intro _ z; cases z)) upd_same⟩
theorem v_set_l {i : Int} {v : V} {xs : List V} {j : Nat} {Q : Hp → Prop} (e : H a = some (.lst xs)) (hj : ixN xs.length i = some j) (q : ∀ H', Chg [a] H H' → H' a = some (.lst (xs.set j v)) → Q H') : uSet (.ref a) (.int i) v H Q :=
  .inl ⟨a, xs, i, j, rfl, rfl, e, hj, q _ (Chg.set e (by intro _ z; cases z)) upd_same⟩
theorem v_list_d (e : H a = some (.dK kvs)) (q : ∀ p H', H p = none → Chg [] H H' → H' p = some (.lst (kvs.map fun kv => kV kv.1)) → Q (.ref p) H') : uList K [.ref a] H Q :=
  .inr ⟨a, kvs, rfl, e, fun p hp => q p _ hp (.new hp) upd_same⟩
theorem v_list_l {xs : List V} (e : SqL K H a xs) (q : ∀ p H', H p = none → Chg [] H H' → H' p = some (.lst xs) → Q (.ref p) H') : uList K [.ref a] H Q :=
  .inl ⟨a, xs, rfl, .inl e, fun p hp => q p _ hp (.new hp) upd_same⟩
theorem v_list_t {xs : List V} (e : SqT K H a xs) (q : ∀ p H', H p = none → Chg [] H H' → H' p = some (.lst xs) → Q (.ref p) H') : uList K [.ref a] H Q :=
  .inl ⟨a, xs, rfl, .inr e, fun p hp => q p _ hp (.new hp) upd_same⟩
theorem v_tuple_l {xs : List V} (e : SqL K H a xs) (q : ∀ p H', H p = none → Chg [] H H' → H' p = some (.tup xs) → Q (.ref p) H') : uTuple K [.ref a] H Q :=
  ⟨a, xs, rfl, .inl ⟨e, fun p hp => q p _ hp (.new hp) upd_same⟩⟩
theorem v_tuple_t {xs : List V} (e : SqT K H a xs) (q : Q (.ref a) H) : uTuple K [.ref a] H Q := ⟨a, xs, rfl, .inr ⟨e, q⟩⟩
theorem v_sub {to ti : TE} {t : TSet} {v : V} {σ : L2.St} {n : L2.St → Hp → Prop} (h : to σ H fun o H1 => ti σ H1 fun i H2 => t o i v H2 fun H3 => n σ H3) : gSub to ti t v σ H n := h
/-- dict displays -/
def DispE (p : Addr) (ps : List (V × V)) (H2 : Hp) (Q : VK) : Prop := H2 p = some (.dK []) ∧ ∃ kvs : List (Key × V), ps = kvs.map (fun kv => (kV kv.1, kv.2)) ∧ kvs.length ≤ 15 ∧ Q (.ref p) (upd H2 p (.dK (mergeK [] kvs)))
theorem v_disp {trs : List (TE × TE)} {σ : L2.St} (h : ∀ p H', H p = none → Chg [] H H' → H' p = some (.dK []) → tPairs trs σ H' fun ps H2 => DispE p ps H2 Q) : tDisp trs σ H Q := fun p hp => h p _ hp (.new hp) upd_same
theorem v_pcons {tk tv : TE} {trs : List (TE × TE)} {σ : L2.St} {Q : List (V × V) → Hp → Prop} (h : tk σ H fun x H1 => tv σ H1 fun y H2 => tPairs trs σ H2 fun ps H3 => Q ((x, y) :: ps) H3) : tPairs ((tk, tv) :: trs) σ H Q := h
theorem v_pnil {σ : L2.St} {Q : List (V × V) → Hp → Prop} (h : Q [] H) : tPairs [] σ H Q := h
theorem v_dispE {p : Addr} {ps : List (V × V)} (kvs : List (Key × V)) (e : H p = some (.dK [])) (hp : ps = kvs.map (fun kv => (kV kv.1, kv.2))) (hl : kvs.length ≤ 15) (q : ∀ H', Chg [p] H H' → H' p = some (.dK (mergeK [] kvs)) → Q (.ref p) H') : DispE p ps H Q :=
  ⟨e, kvs, hp, hl, q _ (Chg.set e (by intro _ z; cases z)) upd_same⟩
theorem v_dnewK {σ : L2.St} (q : ∀ p H', H p = none → Chg [] H H' → H' p = some (.dK []) → Q (.ref p) H') : tDNewK σ H Q := fun p hp => q p _ hp (.new hp) upd_same
theorem v_dnewT {σ : L2.St} (q : ∀ p H', H p = none → Chg [] H H' → H' p = some (.dT []) → Q (.ref p) H') : tDNewT σ H Q := fun p hp => q p _ hp (.new hp) upd_same
end
theorem v_eq_dT {H : Hp} {Q : VK} {K : PySem.W.Frag} {a b : Addr} {ks ls : List (List Key × V)} (ha : H a = some (.dT ks)) (hb : H b = some (.dT ls)) (hl : ks.length = ls.length) (h : ∀ p ∈ ks, valV ls p.1 = some p.2 ∧ flatB p.2 = true) (q : Q (.bl true) H) : uEq K (.ref a) (.ref b) H Q :=
  .inr (.inr ⟨a, b, ks, ls, rfl, rfl, ha, hb, hl, h, q⟩)
theorem v_ne_dT {H : Hp} {Q : VK} {K : PySem.W.Frag} {a b : Addr} {ks ls : List (List Key × V)} (ha : H a = some (.dT ks)) (hb : H b = some (.dT ls)) (hl : ks.length = ls.length) (h : ∀ p ∈ ks, valV ls p.1 = some p.2 ∧ flatB p.2 = true) (q : Q (.bl false) H) : uNe K (.ref a) (.ref b) H Q :=
  .inr (.inr ⟨a, b, ks, ls, rfl, rfl, ha, hb, hl, h, q⟩)
section
variable {κ : Type} [DecidableEq κ]
theorem valV_mem {kvs : List (κ × V)} (hn : (kvs.map (·.1)).Nodup) {p : κ × V} (h : p ∈ kvs) : valV kvs p.1 = some p.2 := by
  induction kvs with
  | nil => cases h
  | cons q r ih =>
    rw [List.map_cons, List.nodup_cons] at hn
    rcases List.mem_cons.mp h with rfl | h
    · exact valV_pos rfl
    · have : ¬ q.1 = p.1 := fun e => hn.1 (by rw [e]; exact List.mem_map_of_mem h)
      rw [valV_neg this]; exact ih hn.2 h
theorem nd_put (kvs : List (κ × V)) (k : κ) (v : V) (hn : (kvs.map (·.1)).Nodup) : ((putK kvs k v).map (·.1)).Nodup := by
  cases h : valV kvs k with
  | none => exact nd_putK v hn h
  | some y =>
    have e : (putK kvs k v).map (·.1) = kvs.map (·.1) := by
      unfold putK
      rw [valV_any, h, if_pos (show (some y).isSome = true from rfl), List.map_map]
      apply List.map_congr_left
      intro kv _
      show (if kv.1 = k then (kv.1, v) else kv).1 = kv.1
      split <;> rfl
    rw [e]; exact hn
theorem assoc_len {ks ls : List (κ × V)} (h1 : (ks.map (·.1)).Nodup) (h2 : (ls.map (·.1)).Nodup) (h : ∀ k, valV ks k = valV ls k) : ks.length = ls.length := by
  have p : (ks.map (·.1)).Perm (ls.map (·.1)) := (List.perm_ext_iff_of_nodup h1 h2).mpr fun k => by
    constructor
    · intro m
      cases e : valV ls k with
      | none => rw [← h] at e; exact absurd m (valV_not e)
      | some y => exact valV_in e
    · intro m
      cases e : valV ks k with
      | none => rw [h] at e; exact absurd m (valV_not e)
      | some y => exact valV_in e
  have := p.length_eq
  simpa using this
end
/-! lists of ints and texts as data -/
theorem dpAll_ints {K : PySem.W.Frag} {H : Hp} : ∀ ns : List Int, DpAll K H (ns.map V.int) (ns.map PyData.int)
  | [] => .nil
  | n :: r => .cons (.int n) (dpAll_ints r)
theorem eqvAll_ints : ∀ ns ms : List Int, PyData.eqvAll (ns.map PyData.int) (ms.map PyData.int) = decide (ns = ms)
  | [], [] => rfl
  | [], _ :: _ => rfl
  | _ :: _, [] => rfl
  | n :: r, m :: t => by
    show ((n == m) && PyData.eqvAll (r.map PyData.int) (t.map PyData.int)) = _
    rw [eqvAll_ints r t]
    by_cases h : n = m
    · subst h; simp
    · simp [h]
theorem canLayAll_ints : ∀ ns : List Int, PyData.canLayAll0 (ns.map PyData.int) = true
  | [] => rfl
  | n :: r => by
    show (PyData.canLay0 (.int n) && PyData.canLayAll0 (r.map PyData.int)) = true
    rw [canLayAll_ints r]; rfl
theorem depthAll_ints : ∀ ns : List Int, PyData.depthAll (ns.map PyData.int) ≤ 1
  | [] => by decide
  | n :: r => by
    have := depthAll_ints r
    show max (PyData.depth (.int n)) (PyData.depthAll (r.map PyData.int)) ≤ 1
    have e : PyData.depth (.int n) ≤ 1 := Nat.zero_le 1
    omega
theorem shaped_ints (ns : List Int) : SeqAt.shaped (.list (ns.map PyData.int)) = true := by
  unfold SeqAt.shaped
  rw [Bool.and_eq_true, decide_eq_true_eq]
  refine ⟨canLayAll_ints ns, ?_⟩
  show PyData.depthAll (ns.map PyData.int) + 1 ≤ 64
  have := depthAll_ints ns
  omega
section
variable {H : Hp} {Q : VK} {K : PySem.W.Frag} {a b : Addr} {ns ms : List Int}
theorem v_eq_ints (h1 : SqL K H a (ns.map V.int)) (h2 : SqL K H b (ms.map V.int)) (q : Q (.bl (decide (ns = ms))) H) : uEq K (.ref a) (.ref b) H Q :=
  v_eq_d (.lst h1 (dpAll_ints ns)) (.lst h2 (dpAll_ints ms)) (shaped_ints ns) (shaped_ints ms) (by
    show Q (.bl (PyData.eqvAll (ns.map PyData.int) (ms.map PyData.int))) H
    rw [eqvAll_ints]; exact q)
theorem v_ne_ints (h1 : SqL K H a (ns.map V.int)) (h2 : SqL K H b (ms.map V.int)) (q : Q (.bl (!decide (ns = ms))) H) : uNe K (.ref a) (.ref b) H Q :=
  v_ne_d (.lst h1 (dpAll_ints ns)) (.lst h2 (dpAll_ints ms)) (shaped_ints ns) (shaped_ints ms) (by
    show Q (.bl (!PyData.eqvAll (ns.map PyData.int) (ms.map PyData.int))) H
    rw [eqvAll_ints]; exact q)
theorem v_eq_nil2 (h1 : SqL K H a []) (h2 : SqL K H b []) (q : Q (.bl true) H) : uEq K (.ref a) (.ref b) H Q := v_eq_ints (ns := []) (ms := []) h1 h2 q
theorem v_ne_nil2 (h1 : SqL K H a []) (h2 : SqL K H b []) (q : Q (.bl false) H) : uNe K (.ref a) (.ref b) H Q := v_ne_ints (ns := []) (ms := []) h1 h2 q
end
/-! ## 10. loops -/
def ForQ (J : It) (g : TG) (tb : TS) (D : Ends) (σ : L2.St) (H1 : Hp) : Prop := ∃ W : Nat → Nat → L2.St → Hp → Prop, (∃ m, W 0 m σ H1) ∧ ∀ i m σ H, W i m σ H →
  (J.stop i H ∧ D.nx σ H) ∨ (J.go i H ∧ ∃ N : L2.St → Hp → Prop, (∀ σ' H', N σ' H' → ∃ m', m' < m ∧ W (i + 1) m' σ' H') ∧ ∀ x H', J.yld i H x H' → g x σ H' fun σ2 H2 => tb { D with nx := N, ct := N, bk := D.nx } σ2 H2)
section
variable {g : TG} {tb : TS} {n : L2.St → Hp → Prop} {r : VK} {b c : L2.St → Hp → Prop} {σ : L2.St} {H : Hp} {K : PySem.W.Frag} {te : TE} {ta : TA} {Q : VK}
theorem v_for {wi : TI} (h : wi σ H fun J H1 => ForQ J g tb ⟨n, r, b, c⟩ σ H1) : tFor wi g tb ⟨n, r, b, c⟩ σ H := h
def Rng1 (vs : List V) (H : Hp) (R : It → Hp → Prop) : Prop := ∃ j : Int, vs = [.int j] ∧ -(2 ^ 62) ≤ j ∧ j < 2 ^ 62 ∧ R (Itr 0 j.toNat) H
def Rng2 (vs : List V) (H : Hp) (R : It → Hp → Prop) : Prop := ∃ i j : Int, vs = [.int i, .int j] ∧ (-(2 ^ 62) ≤ i ∧ i < 2 ^ 62 ∧ -(2 ^ 62) ≤ j ∧ j < 2 ^ 62) ∧ R (Itr i (j - i).toNat) H
def Rng3 (vs : List V) (H : Hp) (R : It → Hp → Prop) : Prop := ∃ (i j c : Int) (n : Nat), vs = [.int i, .int j, .int c] ∧ RgC i j c n ∧ R (Itc i c n) H
theorem v_rng1 {R : It → Hp → Prop} (h : ta σ H fun vs H1 => Rng1 vs H1 R) : iRng1 ta σ H R := h
theorem v_rng2 {R : It → Hp → Prop} (h : ta σ H fun vs H1 => Rng2 vs H1 R) : iRng2 ta σ H R := h
theorem v_rng3 {R : It → Hp → Prop} (h : ta σ H fun vs H1 => Rng3 vs H1 R) : iRng3 ta σ H R := h
theorem v_rng1' {R : It → Hp → Prop} {j : Int} (h1 : -(2 ^ 62) ≤ j) (h2 : j < 2 ^ 62) (h : R (Itr 0 j.toNat) H) : Rng1 [.int j] H R := ⟨j, rfl, h1, h2, h⟩
theorem v_rng2' {R : It → Hp → Prop} {i j : Int} (h1 : -(2 ^ 62) ≤ i) (h2 : i < 2 ^ 62) (h3 : -(2 ^ 62) ≤ j) (h4 : j < 2 ^ 62) (h : R (Itr i (j - i).toNat) H) : Rng2 [.int i, .int j] H R := ⟨i, j, rfl, ⟨h1, h2, h3, h4⟩, h⟩
theorem v_rng3' {R : It → Hp → Prop} {i j c : Int} {n : Nat} (h1 : RgC i j c n) (h : R (Itc i c n) H) : Rng3 [.int i, .int j, .int c] H R := ⟨i, j, c, n, rfl, h1, h⟩
theorem v_it {R : It → Hp → Prop} (h : te σ H fun x H1 => ItV K x H1 R) : uIt K te σ H R := h
theorem v_it_l {R : It → Hp → Prop} {a : Addr} {xs : List V} (hl : SqL K H a xs) (h : R (Itl K a) H) : ItV K (.ref a) H R := .inl ⟨a, rfl, ⟨xs, hl⟩, h⟩
theorem v_it_t {R : It → Hp → Prop} {a : Addr} {xs : List V} (hl : SqT K H a xs) (h : R (Itt K a) H) : ItV K (.ref a) H R := .inr (.inl ⟨a, rfl, ⟨xs, hl⟩, h⟩)
theorem v_it_s {R : It → Hp → Prop} {z : Str} (h : R (Its z) H) : ItV K (.str z) H R := .inr (.inr ⟨z, rfl, h⟩)
theorem v_for_range {lo : Int} {m : Nat} (Pv : Nat → L2.St → Hp → Prop) (h0 : Pv 0 σ H)
    (hs : ∀ i σ H, i < m → Pv i σ H → g (.int (lo + i)) σ H fun σ2 H2 => tb ⟨Pv (i + 1), r, n, Pv (i + 1)⟩ σ2 H2) (hd : ∀ σ H, Pv m σ H → n σ H) : ForQ (Itr lo m) g tb ⟨n, r, b, c⟩ σ H := for_range Pv h0 hs hd
theorem v_for_rangeC {lo st : Int} {m : Nat} (Pv : Nat → L2.St → Hp → Prop) (h0 : Pv 0 σ H)
    (hs : ∀ i σ H, i < m → Pv i σ H → g (.int (lo + (i : Nat) * st)) σ H fun σ2 H2 => tb ⟨Pv (i + 1), r, n, Pv (i + 1)⟩ σ2 H2) (hd : ∀ σ H, Pv m σ H → n σ H) : ForQ (Itc lo st m) g tb ⟨n, r, b, c⟩ σ H := for_rangeC Pv h0 hs hd
theorem v_for_list {a : Addr} {xs : List V} (Pv : Nat → L2.St → Hp → Prop) (h0 : Pv 0 σ H) (hl : ∀ i σ H, i ≤ xs.length → Pv i σ H → SqL K H a xs)
    (hs : ∀ i x σ H, xs[i]? = some x → Pv i σ H → g x σ H fun σ2 H2 => tb ⟨Pv (i + 1), r, n, Pv (i + 1)⟩ σ2 H2) (hd : ∀ σ H, Pv xs.length σ H → n σ H) : ForQ (Itl K a) g tb ⟨n, r, b, c⟩ σ H := for_list Pv h0 hl hs hd
theorem v_for_tup {a : Addr} {xs : List V} (Pv : Nat → L2.St → Hp → Prop) (h0 : Pv 0 σ H) (hl : ∀ i σ H, i ≤ xs.length → Pv i σ H → SqT K H a xs)
    (hs : ∀ i x σ H, xs[i]? = some x → Pv i σ H → g x σ H fun σ2 H2 => tb ⟨Pv (i + 1), r, n, Pv (i + 1)⟩ σ2 H2) (hd : ∀ σ H, Pv xs.length σ H → n σ H) : ForQ (Itt K a) g tb ⟨n, r, b, c⟩ σ H := for_tup Pv h0 hl hs hd
/-- a while: what holds ahead of each turn, a number that falls -/
def WT (W : Nat → L2.St → Hp → Prop) (m : Nat) (tb : TS) (r : VK) (n : L2.St → Hp → Prop) (σ : L2.St) (H : Hp) : Prop :=
  ∃ N : L2.St → Hp → Prop, (∀ σ' H', N σ' H' → ∃ m', m' < m ∧ W m' σ' H') ∧ tb ⟨N, r, n, N⟩ σ H
theorem v_while {tc : TT} (Pv : L2.St → Hp → Prop) (μ : L2.St → Hp → Nat) (h0 : Pv σ H)
    (hs : ∀ σ H, Pv σ H → tc σ H fun k H1 => if k = true then WT (fun m σ H => Pv σ H ∧ μ σ H = m) (μ σ H) tb r n σ H1 else n σ H1) : tWhile tc tb ⟨n, r, b, c⟩ σ H :=
  ⟨fun m σ H => Pv σ H ∧ μ σ H = m, ⟨_, h0, rfl⟩, fun m σ H ⟨h, e⟩ => by subst e; exact hs σ H h⟩
theorem v_wt {Pv : L2.St → Hp → Prop} {μ : L2.St → Hp → Nat} {m : Nat} (h : tb ⟨fun σ' H' => Pv σ' H' ∧ μ σ' H' < m, r, n, fun σ' H' => Pv σ' H' ∧ μ σ' H' < m⟩ σ H) : WT (fun m σ H => Pv σ H ∧ μ σ H = m) m tb r n σ H :=
  ⟨_, fun σ' H' hh => ⟨_, hh.2, hh.1, rfl⟩, h⟩
/-! comprehensions -/
def LcQ (J : It) (g : TG) (tt : TT) (te : TE) (vs : List Nat) (σ : L2.St) (H1 : Hp) (Q : VK) : Prop := ∀ D, H1 D = none → ∃ W : Nat → Nat → Hp → Prop, (∃ m, W 0 m (upd H1 D (.lst []))) ∧ ∀ i m H, W i m H →
  (J.stop i H ∧ Q (.ref D) H) ∨ (J.go i H ∧ ∃ Nx : Hp → Prop, (∀ H', Nx H' → ∃ m', m' < m ∧ W (i + 1) m' H') ∧ ∀ x H', J.yld i H x H' → g x (wipe σ vs) H' fun σ2 H2 => wipe σ2 vs = wipe σ vs ∧ tt σ2 H2 fun b H3 =>
    if b = true then te σ2 H3 fun y H4 => ∃ acc, H4 D = some (.lst acc) ∧ acc.length < sizeLine ∧ Nx (upd H4 D (.lst (acc ++ [y]))) else Nx H3)
theorem v_lc {wi : TI} {tt : TT} {vs : List Nat} (h : wi σ H fun J H1 => LcQ J g tt te vs σ H1 Q) : tLc wi g tt te vs σ H Q := h
theorem v_yes {Q : Bool → Hp → Prop} (h : Q true H) : tYes σ H Q := h
/-- an element is put to the list at D -/
def LcA (D : Addr) (Nx : Hp → Prop) (y : V) (H4 : Hp) : Prop := ∃ acc, H4 D = some (.lst acc) ∧ acc.length < sizeLine ∧ Nx (upd H4 D (.lst (acc ++ [y])))
/-- what the turns of a comprehension keep: S, what else they change -/
def LcI (S : List Addr) (H0 : Hp) (D : Addr) (Pv : Nat → List V → Hp → Prop) (i : Nat) (H : Hp) : Prop := ∃ acc, Chg S H0 H ∧ H D = some (.lst acc) ∧ Pv i acc H
theorem v_lcA {S : List Addr} {H0 H1 H4 : Hp} {D : Addr} {Pv : Nat → List V → Hp → Prop} {i : Nat} {acc : List V} {y : V} (c0 : Chg S H0 H1) (hD : H1 D = some (.lst acc)) (nD : H0 D = none) (hS : D ∉ S) (c : Chg S H1 H4) (hl : acc.length < sizeLine)
    (h : ∀ H5, Chg [D] H4 H5 → Pv i (acc ++ [y]) H5) : LcA D (LcI S H0 D Pv i) y H4 := by
  have e := c.keep hD hS
  have c5 : Chg [D] H4 (upd H4 D (.lst (acc ++ [y]))) := Chg.set e (by intro _ z; cases z)
  refine ⟨acc, e, hl, acc ++ [y], (c0.trans c).trans' c5 ?_, upd_same, h _ c5⟩
  intro l hm
  rw [List.mem_singleton] at hm
  subst hm
  exact .inr nD
theorem v_lcN {S : List Addr} {H0 H1 H4 : Hp} {D : Addr} {Pv : Nat → List V → Hp → Prop} {i : Nat} {acc : List V} (c0 : Chg S H0 H1) (hD : H1 D = some (.lst acc)) (hS : D ∉ S) (c : Chg S H1 H4) (h : Pv i acc H4) : LcI S H0 D Pv i H4 :=
  ⟨acc, c0.trans c, c.keep hD hS, h⟩
theorem v_lc_list {a : Addr} {xs : List V} {tt : TT} {vs : List Nat} (S : List Addr) (Pv : Nat → List V → Hp → Prop) (hS : ∀ b ∈ S, H b ≠ none) (hl : ∀ H', Chg S H H' → SqL K H' a xs)
    (h0 : ∀ H', Chg [] H H' → Pv 0 [] H')
    (hs : ∀ D i x acc H1, xs[i]? = some x → H D = none → D ∉ S → Chg S H H1 → H1 D = some (.lst acc) → Pv i acc H1 → g x (wipe σ vs) H1 fun σ2 H2 => wipe σ2 vs = wipe σ vs ∧ tt σ2 H2 fun k H3 =>
      if k = true then te σ2 H3 fun y H4 => LcA D (LcI S H D Pv (i + 1)) y H4 else LcI S H D Pv (i + 1) H3)
    (hd : ∀ D acc H', Chg S H H' → H D = none → H' D = some (.lst acc) → Pv xs.length acc H' → Q (.ref D) H') : LcQ (Itl K a) g tt te vs σ H Q := by
  intro D hD
  have dS : D ∉ S := fun m => hS D m hD
  refine lc_list (xs := xs) (LcI S H D Pv) ⟨[], (Chg.new hD).of0, upd_same, h0 _ (.new hD)⟩ (fun i H1 _ ⟨_, c, _⟩ => hl _ c) (fun i x H1 hx ⟨acc, c, e, p⟩ => hs D i x acc H1 hx hD dS c e p) (fun H1 ⟨acc, c, e, p⟩ => hd D acc H1 c hD e p)
theorem v_lc_tup {a : Addr} {xs : List V} {tt : TT} {vs : List Nat} (S : List Addr) (Pv : Nat → List V → Hp → Prop) (hS : ∀ b ∈ S, H b ≠ none) (hl : ∀ H', Chg S H H' → SqT K H' a xs)
    (h0 : ∀ H', Chg [] H H' → Pv 0 [] H')
    (hs : ∀ D i x acc H1, xs[i]? = some x → H D = none → D ∉ S → Chg S H H1 → H1 D = some (.lst acc) → Pv i acc H1 → g x (wipe σ vs) H1 fun σ2 H2 => wipe σ2 vs = wipe σ vs ∧ tt σ2 H2 fun k H3 =>
      if k = true then te σ2 H3 fun y H4 => LcA D (LcI S H D Pv (i + 1)) y H4 else LcI S H D Pv (i + 1) H3)
    (hd : ∀ D acc H', Chg S H H' → H D = none → H' D = some (.lst acc) → Pv xs.length acc H' → Q (.ref D) H') : LcQ (Itt K a) g tt te vs σ H Q := by
  intro D hD
  have dS : D ∉ S := fun m => hS D m hD
  refine lc_tup (xs := xs) (LcI S H D Pv) ⟨[], (Chg.new hD).of0, upd_same, h0 _ (.new hD)⟩ (fun i H1 _ ⟨_, c, _⟩ => hl _ c) (fun i x H1 hx ⟨acc, c, e, p⟩ => hs D i x acc H1 hx hD dS c e p) (fun H1 ⟨acc, c, e, p⟩ => hd D acc H1 c hD e p)
theorem v_lc_range {lo : Int} {m : Nat} {tt : TT} {vs : List Nat} (S : List Addr) (Pv : Nat → List V → Hp → Prop) (hS : ∀ b ∈ S, H b ≠ none)
    (h0 : ∀ H', Chg [] H H' → Pv 0 [] H')
    (hs : ∀ D i acc H1, i < m → H D = none → D ∉ S → Chg S H H1 → H1 D = some (.lst acc) → Pv i acc H1 → g (.int (lo + i)) (wipe σ vs) H1 fun σ2 H2 => wipe σ2 vs = wipe σ vs ∧ tt σ2 H2 fun k H3 =>
      if k = true then te σ2 H3 fun y H4 => LcA D (LcI S H D Pv (i + 1)) y H4 else LcI S H D Pv (i + 1) H3)
    (hd : ∀ D acc H', Chg S H H' → H D = none → H' D = some (.lst acc) → Pv m acc H' → Q (.ref D) H') : LcQ (Itr lo m) g tt te vs σ H Q := by
  intro D hD
  have dS : D ∉ S := fun m => hS D m hD
  refine lc_range (LcI S H D Pv) ⟨[], (Chg.new hD).of0, upd_same, h0 _ (.new hD)⟩ (fun i H1 hi ⟨acc, c, e, p⟩ => hs D i acc H1 hi hD dS c e p) (fun H1 ⟨acc, c, e, p⟩ => hd D acc H1 c hD e p)
end
end RT

/-! ## 12. enumerate(list, start) -/
namespace PySem.F
open PySem
theorem rt_typeCall_enumerate_2 (a b : Value) : checkTypeCall "enumerate" ⟨[a, b], []⟩ = pure () := by kernel_rfl
theorem rt_newCall_enumerate_2 (a b : Value) : checkBuiltinCall "enumerate.__new__" ⟨[.type "enumerate", a, b], []⟩ = pure () := by kernel_rfl
end PySem.F
namespace PySem
open Sem (wp)
theorem rt_meets_enumerate {v1 : Value} {o1 : Obj} {H1 : Heap → Prop} (B1 : Begins v1 o1 H1) (k : Int) (t : Tok) (hk : Builtin.SmallTypes.fitsIndex k = true) :
    Meets (Builtin.«enumerate.__new__» ⟨[.type "enumerate", v1, .int k t], []⟩) (fun _ R s => H1 s.heap ∧
      R (.ok (.ret (.ref (s.heap.push o1).objs.size)))
        { s with heap := (s.heap.push o1).push { cls := .type "enumerate", data := .fields #[.none, .bool false, .ref s.heap.objs.size, rawInt k, .none, .none] } }) :=
  .of_wp fun prog w A R s h => by
    obtain ⟨hp, g, d, tk, os⟩ := s; obtain ⟨h1, h⟩ := h
    have hsub := sub_enumerate
    have q1 : ∀ {A' : Around} {E : Value → Shared → Prop} {Q : Value → Shared → Prop}, Q (.ref hp.objs.size) ⟨(hp.push o1), g, d, tk, os⟩ → wpAny (model prog w) A' (pyIter v1) Q E ⟨hp, g, d, tk, os⟩ :=
      fun q => B1.iter prog w _ _ ⟨hp, g, d, tk, os⟩ _ (B1.keeps _ _ h1 fun b o' e => e) q
    wp_walk using q1
    refine wpAny_stack_any fun st => wpAny_pure ?_
    split
    · rename_i c _ _ _ _ _
      cases (c == Value.type "enumerate")
      · wp_walk using q1
        try simp only [hk, Bool.not_true, Bool.false_eq_true, if_false]
        try wp_walk using q1
        exact ⟨_, rfl, h⟩
      · wp_walk using q1
        try simp only [hk, Bool.not_true, Bool.false_eq_true, if_false]
        try wp_walk using q1
        exact ⟨_, rfl, h⟩
    · wp_walk using q1
      try simp only [hk, Bool.not_true, Bool.false_eq_true, if_false]
      try wp_walk using q1
      exact ⟨_, rfl, h⟩
section
variable {prog : Program} {w : World} {A : Around} {E : Value → Shared → Prop} {s : Shared}
theorem rt_call_enumerate {v1 : Value} {o1 : Obj} {H1 : Heap → Prop} {k : Int} {t : Tok} {Q : Value → Shared → Prop} (B1 : Begins v1 o1 H1) (hk : Builtin.SmallTypes.fitsIndex k = true) (h1 : H1 s.heap)
    (h : ∀ h', IsEnum h' (s.heap.objs.size + 1) s.heap.objs.size k .none → h'.get? s.heap.objs.size = some o1 → h'.objs.size = s.heap.objs.size + 2 →
      (∀ b o, s.heap.get? b = some o → h'.get? b = some o) → Q (.ref (s.heap.objs.size + 1)) { s with heap := h' }) :
    wpAny (model prog w) A (call (.type "enumerate") [v1, .int k t]) Q E s := by
  refine callType_new F.called_enumerate (by decide) (F.rt_typeCall_enumerate_2 _ _) (F.rt_newCall_enumerate_2 _ _) (fun obj => F.args_object_init_3 obj _ _) F.entry_enumerate_new
    (rt_meets_enumerate B1 k t hk) ⟨h1, ?_⟩
  have hz : (s.heap.push o1).objs.size = s.heap.objs.size + 1 := Heap.size_push ..
  show _ ∧ _
  rw [hz]
  have he : IsEnum ((s.heap.push o1).push { cls := .type "enumerate", data := .fields #[.none, .bool false, .ref s.heap.objs.size, rawInt k, .none, .none] }) (s.heap.objs.size + 1) s.heap.objs.size k .none := by
    have := Heap.get?_push_size (s.heap.push o1)
      (o := { cls := .type "enumerate", data := .fields #[.none, .bool false, .ref s.heap.objs.size, rawInt k, .none, .none] }) rfl
    rw [hz] at this; exact this
  refine ⟨⟨_, he, rfl⟩, h _ he (Heap.get?_push_of_some _ (Heap.get?_push_size _ B1.free)) (by rw [Heap.size_push, hz]) fun b o x => Heap.get?_push_of_some _ (Heap.get?_push_of_some _ x)⟩
end
end PySem
namespace RT
open PySem PySem.Spec PyProof.Rows L2
/-! ### lists and tuples alike (tt: a tuple) -/
def SqB (K : PySem.W.Frag) (H : Hp) (b : Bool) (a : Addr) (xs : List V) : Prop := match b with
  | false => SqL K H a xs
  | true => SqT K H a xs
def ItB (b : Bool) (h : Heap) (it a : Addr) (i : Nat) : Prop := match b with
  | false => h.IsListIter it a i
  | true => h.IsTupleIter it a i
def ObB (b : Bool) (h : Heap) (a : Addr) (its : Array Value) : Prop := match b with
  | false => h.IsList a its
  | true => h.IsTuple a its
def itO (b : Bool) (a : Addr) : Obj := match b with
  | false => { cls := .type "list_iterator", data := .fields #[.ref a, .int 0 0] }
  | true => { cls := .type "tuple_iterator", data := .fields #[.ref a, .int 0 0] }
theorem itO_at {b : Bool} {h : Heap} {it a : Addr} (e : h.get? it = some (itO b a)) : ItB b h it a 0 := by
  cases b
  · exact ⟨_, e, rfl, rfl⟩
  · exact ⟨_, e, rfl, rfl⟩
theorem ItB.obj {b : Bool} {h : Heap} {it a : Addr} {i : Nat} (x : ItB b h it a i) : ∃ o, h.get? it = some o ∧ ∀ v, o.data ≠ .cell v := by
  cases b
  · obtain ⟨o, e, _, d⟩ := x
    exact ⟨o, e, fun v z => by rw [d] at z; cases z⟩
  · obtain ⟨o, e, _, d⟩ := x
    exact ⟨o, e, fun v z => by rw [d] at z; cases z⟩
theorem ItB.at' {b : Bool} {h h' : Heap} {it a : Addr} {i : Nat} (x : ItB b h it a i) (k : ∀ o, h.get? it = some o → h'.get? it = some o) : ItB b h' it a i := by
  cases b
  · exact Heap.IsListIter.at x k
  · exact Heap.IsTupleIter.at x k
theorem ItB.lt {b : Bool} {h : Heap} {it a : Addr} {i : Nat} (x : ItB b h it a i) : it < h.objs.size := by
  obtain ⟨o, e, _⟩ := x.obj
  exact Heap.lt_size e
theorem ObB.lt {b : Bool} {h : Heap} {a : Addr} {its : Array Value} (x : ObB b h a its) : a < h.objs.size := by
  cases b
  · obtain ⟨o, e, _⟩ := x
    exact Heap.lt_size e
  · obtain ⟨o, e, _⟩ := x
    exact Heap.lt_size e
theorem begB (b : Bool) (a : Addr) (its : Array Value) : Begins (.ref a) (itO b a) (fun h => ObB b h a its) := by
  cases b
  · exact begins_list a its
  · exact begins_tuple a its
theorem drawB {prog : Program} {w : World} {A : Around} (hh : A.handled = none) (b : Bool) (it a : Addr) (hne : a ≠ it) (its : Array Value) :
    Draws prog w A it [it, a] its.size (fun i v => its[i]? = some v) (fun i h => ItB b h it a i ∧ ObB b h a its) := by
  cases b
  · exact Draws.list hh it a hne its
  · exact Draws.tuple hh it a hne its
theorem SqB.inv {X : Cx} {pins : List (Addr × Obj)} {σ : L2.St} {H : Hp} {s : Shared} {b : Bool} {a : Addr} {xs : List V} (I : L2.Inv X pins σ H s) (h : SqB X.K H b a xs) : ∃ its : List Value, Vals xs its ∧ ObB b s.heap a its.toArray := by
  cases b
  · obtain ⟨its, rv, p, _⟩ := I.list h
    exact ⟨its, rv, p.isList⟩
  · obtain ⟨its, rv, p, _⟩ := I.tuple h
    exact ⟨its, rv, p⟩
theorem SqB.inj {X : Cx} {pins : List (Addr × Obj)} {σ : L2.St} {H : Hp} {s : Shared} {b : Bool} {a : Addr} {xs ys : List V} (I : L2.Inv X pins σ H s) (h : SqB X.K H b a xs) (h' : SqB X.K H b a ys) : xs = ys := by
  cases b
  · exact I.list_inj h h'
  · exact I.tuple_inj h h'
theorem Itn.eq {α : Type} {l : List α} {i : Nat} (h : ¬ i < l.length) : l[i]? = none := by simpa using h
/-! ### enumerate(x, k) -/
def IteS (K : PySem.W.Frag) (b : Bool) (a : Addr) (k : Int) : It :=
  ⟨fun i H => ∃ (xs : List V) (x : V), SqB K H b a xs ∧ xs[i]? = some x, fun i H v H' => ∃ T x, v = .ref T ∧ H T = none ∧ H' = upd H T (.tup [.int (k + (i : Nat)), x]) ∧ ∀ xs, SqB K H b a xs → xs[i]? = some x, fun i H => ∃ xs : List V, SqB K H b a xs ∧ xs.length = i⟩
theorem turn_enumS {P : Program} {w : World} {K : PySem.W.Frag} {elts : List Expr} {kk : Nat} {tpos : Pos} (b : Bool) (a e it : Addr) (k0 : Int) (hae : a ≠ e) (hai : a ≠ it) (hei : e ≠ it) :
    Turn P w K (.Tuple elts kk tpos) (IteS K b a k0) [e, it] e (fun i h => (∃ old, IsEnum h e it (k0 + ((i : Nat) : Int)) old) ∧ ItB b h it a i) where
  mem := by simp
  obj := fun i h st c hc => by
    obtain ⟨⟨old, he⟩, hit⟩ := st
    have e' : c = e ∨ c = it := by simpa using hc
    rcases e' with z | z
    · rw [z]; exact ⟨_, he, fun v q => nomatch q⟩
    · rw [z]; exact hit.obj
  keep := fun i h h' st k => let ⟨⟨old, he⟩, hi⟩ := st; ⟨⟨old, k e (by simp) _ he⟩, hi.at' fun o q => k it (by simp) o q⟩
  item := by
    intro X hP hw hK hc i pins s σ H E I hf st hg
    subst hP hw hK
    obtain ⟨⟨old, he⟩, hit⟩ := st
    obtain ⟨xs, x, hq, hx⟩ := hg
    obtain ⟨its, rv, p⟩ := hq.inv I
    obtain ⟨u, hu, ru⟩ := rv.get hx
    have hi : i < its.toArray.size := by
      have := (List.getElem?_eq_some_iff.mp hu).1
      simpa using this
    have hel : e < s.heap.objs.size := Heap.lt_size he
    have hil := hit.lt
    refine wpAny_pyNext_enum_itemC (drawB (A := X.A.in1) (show X.A.in1.handled = none from I.ok.hd hc) b it a hai its.toArray) he ⟨hit, p⟩ hi hei (by simp [hei, Ne.symm hae]) fun u' h' tk hu' ho st' hT hsz hk => ?_
    have eu : u' = u := by
      have : its[i]? = some u' := by simpa using hu'
      rw [hu] at this
      exact (Option.some.inj this).symm
    subst eu
    refine ⟨_, rfl, wpAny_letOwnedTupleGo_enum (s := { s with heap := h', toks := tk + 1 }) ho fun h'' he' sb => ?_⟩
    have hT2 : h''.get? s.heap.objs.size = some { cls := .type "tuple", data := .seq #[.int (k0 + i) tk, u'] } := (sb.2 _ (Nat.ne_of_gt hel)).trans hT
    have new : ObjOk X.prog X.w (upd H s.heap.objs.size (.tup [.int (k0 + (i : Nat)), x])) h'' s.heap.objs.size (.tup [.int (k0 + (i : Nat)), x]) :=
      ⟨by show 2 ≤ sizeLine; decide, [.int (k0 + i) tk, u'], .cons ⟨_, rfl⟩ (.cons ru .nil), ⟨_, hT2, rfl, _, rfl⟩⟩
    have I1 : L2.Inv X pins σ (upd H s.heap.objs.size (.tup [.int (k0 + (i : Nat)), x])) { s with heap := h'', toks := tk + 1 } :=
      I.turnedNew (ch := [e, it]) (fun c ob hb q => (sb.2 c (fun z => hb (by simp [z]))).trans (hk c ob (fun z => hb (by simp [z])) (fun z => hb (by simp [z])) q)) hf (Nat.le_refl _) new
    refine ⟨.ref s.heap.objs.size, _, I1, rfl, ⟨_, x, rfl, I.hok.fresh (Nat.le_refl _), rfl, fun ys hy => by rw [hy.inj I hq]; exact hx⟩, ⟨⟨u', ?_⟩, st'.1.at' fun o q => (sb.2 it (Ne.symm hei)).trans q⟩, fun c hb => ?_⟩
    · have e1 : k0 + ((i + 1 : Nat) : Int) = k0 + (i : Int) + 1 := by omega
      rw [e1]; exact he'
    · have hb' : c < s.heap.objs.size := by
        have e' : c = e ∨ c = it := by simpa using hb
        rcases e' with z | z
        · rw [z]; exact hel
        · rw [z]; exact hil
      rw [upd_ne (Nat.ne_of_lt hb')]
      exact (hf c hb).1
  done := by
    intro X hP hw hK hc i pins s σ H E I hf st hg
    subst hP hw hK
    obtain ⟨⟨old, he⟩, hit⟩ := st
    obtain ⟨xs, hq, hx⟩ := hg
    obtain ⟨its, rv, p⟩ := hq.inv I
    obtain ⟨f0, f1, f2, f3, f4, f5⟩ := hf it (by simp)
    have hl := rv.length
    have hi : its.toArray.size = i := by simp; omega
    refine wpAny_pyNext_enum_endD (drawB (A := X.A.in1) (show X.A.in1.handled = none from I.ok.hd hc) b it a hai its.toArray) he (by rw [hi]; exact ⟨hit, p⟩) fun h' eb => ⟨rfl, I.turned (t' := s.toks) (fun c o hb q => eb c o hb q) f0 f1 f3 f4 f5⟩
  self := fun A i s Q E st h => let ⟨⟨_, he⟩, _⟩ := st; wpAny_pyIter_enum he h
def EnumS (K : PySem.W.Frag) (vs : List V) (H : Hp) (R : It → Hp → Prop) : Prop := ∃ (b : Bool) (a : Addr) (k : Int), vs = [.ref a, .int k] ∧ (-(2 ^ 62) ≤ k ∧ k < 2 ^ 62) ∧ (∃ xs, SqB K H b a xs) ∧ R (IteS K b a k) H
def iEnumS (K : PySem.W.Frag) (ta : TA) : TI := fun σ H R => ta σ H fun vs H1 => EnumS K vs H1 R
theorem pi_enumS {X : Cx} {K : PySem.W.Frag} {e e2 : Expr} {ta : TA} {p pos tpos : Pos} {elts : List Expr} {kk : Nat} (hg : Gl X "enumerate") (hm : X.mg "enumerate" = none) (ha : PA X [e, e2] ta)
    (hs : starEach [e, e2] X.env = (false, eval e X.env) :: starEach [e2] X.env := by rfl) (hpl : (backTo pos (starEach [e2] X.env)).any (·.1) = false := by rfl) (hK : X.K = K := by rfl) :
    PI X (.Tuple elts kk tpos) (.Call (.Name "enumerate" p) [e, e2] [] pos) (iEnumS K ta) := by
  subst hK
  refine ⟨fun pins s σ H R I h => ?_⟩
  refine Call_ (ld_blt I hg hm boot_enumerate (PyProof.Rows.callWith_type1 (thn (ha.run pos pins s σ H _ I h) fun us s1 ⟨vs, H1, I1, r1, q1⟩ => ?_) hs hpl))
  obtain ⟨b, a, k, ex, ⟨k0, k1⟩, ⟨xs, hq⟩, q⟩ := q1
  subst ex
  obtain ⟨u1, u2, rfl, r1, r2⟩ := Vals.two r1
  obtain rfl : u1 = Value.ref a := r1
  obtain ⟨t, rfl⟩ := r2
  obtain ⟨its, rv, p'⟩ := hq.inv I1
  have hk : Builtin.SmallTypes.fitsIndex k = true := by
    unfold Builtin.SmallTypes.fitsIndex
    simp only [Bool.and_eq_true, decide_eq_true_eq]
    omega
  have la := p'.lt
  refine rt_call_enumerate (begB b a its.toArray) hk p' fun h' he hit hsz hk => wpAny_pyIter_enum he ?_
  have I2 : L2.Inv X pins σ H1 { s1 with heap := h' } := I1.kept (t' := s1.toks) hk
  refine ⟨s1.heap.objs.size + 1, [s1.heap.objs.size + 1, s1.heap.objs.size], _, _, H1, rfl, I2, turn_enumS b a (s1.heap.objs.size + 1) s1.heap.objs.size k (by show (a : Nat) ≠ _; have := la; exact Nat.ne_of_lt (Nat.lt_succ_of_lt la)) (Nat.ne_of_lt la) (Nat.succ_ne_self _), ⟨⟨.none, ?_⟩, itO_at hit⟩, fun c hb => ?_, q⟩
  · rw [show k + ((0 : Nat) : Int) = k by omega]; exact he
  have e' : c = s1.heap.objs.size + 1 ∨ c = s1.heap.objs.size := by simpa using hb
  have hle : s1.heap.objs.size ≤ c := by
    rcases e' with z | z
    · rw [z]; exact Nat.le_add_right _ _
    · rw [z]; exact Nat.le_refl _
  exact I1.fpOk hle (I1.hok.fresh hle)
theorem v_enumS {K : PySem.W.Frag} {ta : TA} {σ : L2.St} {H : Hp} {R : It → Hp → Prop} (h : ta σ H fun vs H1 => EnumS K vs H1 R) : iEnumS K ta σ H R := h
theorem v_enumS_l {K : PySem.W.Frag} {H : Hp} {R : It → Hp → Prop} {a : Addr} {k : Int} {xs : List V} (hl : SqL K H a xs) (h0 : -(2 ^ 62) ≤ k) (h1 : k < 2 ^ 62) (h : R (IteS K false a k) H) : EnumS K [.ref a, .int k] H R := ⟨false, a, k, rfl, ⟨h0, h1⟩, ⟨xs, hl⟩, h⟩
theorem v_enumS_t {K : PySem.W.Frag} {H : Hp} {R : It → Hp → Prop} {a : Addr} {k : Int} {xs : List V} (hl : SqT K H a xs) (h0 : -(2 ^ 62) ≤ k) (h1 : k < 2 ^ 62) (h : R (IteS K true a k) H) : EnumS K [.ref a, .int k] H R := ⟨true, a, k, rfl, ⟨h0, h1⟩, ⟨xs, hl⟩, h⟩
section
variable {g : TG} {tb : TS} {n : L2.St → Hp → Prop} {r : VK} {b c : L2.St → Hp → Prop} {σ : L2.St} {H : Hp} {K : PySem.W.Frag}
theorem v_for_enumS {tt : Bool} {a : Addr} {k : Int} {xs : List V} (Pv : Nat → L2.St → Hp → Prop) (h0 : Pv 0 σ H) (hl : ∀ i σ H, i ≤ xs.length → Pv i σ H → SqB K H tt a xs)
    (hs : ∀ i x σ H t H', xs[i]? = some x → Pv i σ H → H t = none → Chg [] H H' → H' t = some (.tup [.int (k + (i : Nat)), x]) → g (.ref t) σ H' fun σ2 H2 => tb ⟨Pv (i + 1), r, n, Pv (i + 1)⟩ σ2 H2)
    (hd : ∀ σ H, Pv xs.length σ H → n σ H) : ForQ (IteS K tt a k) g tb ⟨n, r, b, c⟩ σ H := by
  refine ⟨fun i m σ H => Pv i σ H ∧ i + m = xs.length, ⟨xs.length, h0, by omega⟩, ?_⟩
  rintro i m σ H ⟨hp, hm⟩
  have hq := hl i σ H (by omega) hp
  by_cases hi : i < xs.length
  · refine .inr ⟨⟨xs, xs[i], hq, List.getElem?_eq_getElem hi⟩, Pv (i + 1), fun σ' H' h => ⟨m - 1, by omega, h, by omega⟩, ?_⟩
    rintro v H' ⟨T, x, rfl, hT, rfl, hx⟩
    exact hs i x σ H T _ (hx xs hq) hp hT (.new hT) upd_same
  · have e : i = xs.length := by omega
    subst e
    exact .inl ⟨⟨xs, hq, rfl⟩, hd σ H hp⟩
end
/-! ### zip(x, y) -/
def ItzB (K : PySem.W.Frag) (b1 b2 : Bool) (a1 a2 : Addr) : It :=
  ⟨fun i H => ∃ (xs ys : List V) (x y : V), SqB K H b1 a1 xs ∧ SqB K H b2 a2 ys ∧ xs[i]? = some x ∧ ys[i]? = some y,
    fun i H v H' => ∃ T x y, v = .ref T ∧ H T = none ∧ H' = upd H T (.tup [x, y]) ∧ (∀ xs, SqB K H b1 a1 xs → xs[i]? = some x) ∧ ∀ ys, SqB K H b2 a2 ys → ys[i]? = some y,
    fun i H => ∃ xs ys : List V, SqB K H b1 a1 xs ∧ SqB K H b2 a2 ys ∧ i ≤ xs.length ∧ i ≤ ys.length ∧ (i = xs.length ∨ i = ys.length)⟩
theorem sep2_of {z TI TO i1 i2 a b : Addr} (D : ZipApart z TI TO i1 i2 a b) : ZipSep2 z TI TO i1 i2 [i1, a] [i2, b] := by
  obtain ⟨⟩ := D
  constructor <;> (try simp only [List.mem_cons, List.not_mem_nil, or_false, not_or]) <;> (try constructor) <;> first | assumption | (apply Ne.symm; assumption) | simp
theorem turn_zipB {P : Program} {w : World} {K : PySem.W.Frag} {elts : List Expr} {kk : Nat} {tpos : Pos} {b1 b2 : Bool} {a b z TI TO i1 i2 : Addr} (D : ZipApart z TI TO i1 i2 a b) :
    Turn P w K (.Tuple elts kk tpos) (ItzB K b1 b2 a b) [z, TI, TO, i1, i2] z (fun i h => IsZip h z TI TO .none ∧ IsTupOf2 h TI (.ref i1) (.ref i2) ∧ (∃ x y, IsTupOf2 h TO x y) ∧ ItB b1 h i1 a i ∧ ItB b2 h i2 b i) where
  mem := by simp
  obj := fun i h st c hc => by
    obtain ⟨hz, hTI, ⟨x, y, hTO⟩, h1, h2⟩ := st
    have e' : c = z ∨ c = TI ∨ c = TO ∨ c = i1 ∨ c = i2 := by simpa using hc
    rcases e' with q | q | q | q | q
    · rw [q]; exact ⟨_, hz, fun v q => nomatch q⟩
    · rw [q]; exact ⟨_, hTI, fun v q => nomatch q⟩
    · rw [q]; exact ⟨_, hTO, fun v q => nomatch q⟩
    · rw [q]; exact h1.obj
    · rw [q]; exact h2.obj
  keep := fun i h h' st k => by
    obtain ⟨hz, hTI, ⟨x, y, hTO⟩, h1, h2⟩ := st
    exact ⟨k z (by simp) _ hz, k TI (by simp) _ hTI, ⟨x, y, k TO (by simp) _ hTO⟩, h1.at' fun o q => k i1 (by simp) o q, h2.at' fun o q => k i2 (by simp) o q⟩
  item := by
    intro X hP hw hK hc i pins s σ H E I hf st hg
    subst hP hw hK
    obtain ⟨hz, hTI, ⟨x0, y0, hTO⟩, h1, h2⟩ := st
    obtain ⟨xs, ys, x, y, hqx, hqy, hx, hy⟩ := hg
    obtain ⟨its, rv, p⟩ := hqx.inv I
    obtain ⟨its2, rv2, p2⟩ := hqy.inv I
    obtain ⟨u, hu, ru⟩ := rv.get hx
    obtain ⟨u2, hu2, ru2⟩ := rv2.get hy
    have hzl : z < s.heap.objs.size := Heap.lt_size hz
    have hi1 : i < its.toArray.size := by have := (List.getElem?_eq_some_iff.mp hu).1; simpa using this
    have hi2 : i < its2.toArray.size := by have := (List.getElem?_eq_some_iff.mp hu2).1; simpa using this
    have la := p.lt
    have lb := p2.lt
    refine wpAny_pyNext_zipD2_item (sep2_of D) (drawB (A := X.A.in1) (show X.A.in1.handled = none from I.ok.hd hc) b1 i1 a D.l1i1 its.toArray) (drawB (A := X.A.in1) (show X.A.in1.handled = none from I.ok.hd hc) b2 i2 b D.l2i2 its2.toArray) hz hTI hTO ⟨h1, p⟩ ⟨h2, p2⟩ hi1 hi2 fun u' u2' h' tk hu' hu2' z' TO' st1 st2 hT hsz hk => ?_
    have eu : u' = u := by
      have : its[i]? = some u' := by simpa using hu'
      rw [hu] at this
      exact (Option.some.inj this).symm
    have eu2 : u2' = u2 := by
      have : its2[i]? = some u2' := by simpa using hu2'
      rw [hu2] at this
      exact (Option.some.inj this).symm
    subst eu eu2
    refine ⟨_, rfl, wpAny_letOwnedTupleGo_zip (s := { s with heap := h', toks := tk }) z' fun h'' z'' sb => ?_⟩
    have hT2 : h''.get? s.heap.objs.size = some { cls := .type "tuple", data := .seq #[u', u2'] } := (sb.2 _ (Nat.ne_of_gt hzl)).trans hT
    have new : ObjOk X.prog X.w (upd H s.heap.objs.size (.tup [x, y])) h'' s.heap.objs.size (.tup [x, y]) :=
      ⟨by show 2 ≤ sizeLine; decide, [u', u2'], .cons ru (.cons ru2 .nil), ⟨_, hT2, rfl, _, rfl⟩⟩
    have I1 : L2.Inv X pins σ (upd H s.heap.objs.size (.tup [x, y])) { s with heap := h'', toks := tk } :=
      I.turnedNew (t' := tk) (ch := [z, TI, TO, i1, i2]) (fun c o hb q => (sb.2 c (fun q' => hb (by simp [q']))).trans (hk c o (fun q' => hb (by simp [q'])) (fun q' => hb (by simp [q'])) (fun q' => hb (by simp [q'])) (fun q' => hb (by simp [q'])) q)) hf (Nat.le_refl _) new
    refine ⟨.ref s.heap.objs.size, _, I1, rfl, ⟨_, x, y, rfl, I.hok.fresh (Nat.le_refl _), rfl, fun l hl => by rw [hl.inj I hqx]; exact hx, fun l hl => by rw [hl.inj I hqy]; exact hy⟩, ⟨z'', ?_, ⟨u', u2', ?_⟩, ?_, ?_⟩, fun c hcm => ?_⟩
    · exact (sb.2 _ D.TIz).trans (hk _ _ D.TIz D.TITO D.TIi1 D.TIi2 hTI)
    · exact (sb.2 _ D.TOz).trans TO'
    · exact st1.1.at' fun o q => (sb.2 _ D.i1z).trans q
    · exact st2.1.at' fun o q => (sb.2 _ D.i2z).trans q
    · have hlt : c < s.heap.objs.size := by
        have e' : c = z ∨ c = TI ∨ c = TO ∨ c = i1 ∨ c = i2 := by simpa using hcm
        rcases e' with q | q | q | q | q
        · rw [q]; exact hzl
        · rw [q]; exact Heap.lt_size hTI
        · rw [q]; exact Heap.lt_size hTO
        · rw [q]; exact h1.lt
        · rw [q]; exact h2.lt
      rw [upd_ne (Nat.ne_of_lt hlt)]
      exact (hf c hcm).1
  done := by
    intro X hP hw hK hc i pins s σ H E I hf st hg
    subst hP hw hK
    obtain ⟨hz, hTI, ⟨x0, y0, hTO⟩, h1, h2⟩ := st
    obtain ⟨xs, ys, hqx, hqy, l1, l2, hend⟩ := hg
    obtain ⟨its, rv, p⟩ := hqx.inv I
    obtain ⟨its2, rv2, p2⟩ := hqy.inv I
    have e1 := rv.length
    have e2 := rv2.length
    exact wpAny_pyNext_zipD2_end (sep2_of D) (drawB (A := X.A.in1) (show X.A.in1.handled = none from I.ok.hd hc) b1 i1 a D.l1i1 its.toArray) (drawB (A := X.A.in1) (show X.A.in1.handled = none from I.ok.hd hc) b2 i2 b D.l2i2 its2.toArray) hz hTI hTO ⟨h1, p⟩ ⟨h2, p2⟩ (by simp; omega) (by simp; omega) (by simp; omega)
      fun h' tk hk => ⟨rfl, I.turnedL (t' := tk) (ch := [z, TI, TO, i1, i2]) (fun c o hb q => hk c o (fun q' => hb (by simp [q'])) (fun q' => hb (by simp [q'])) (fun q' => hb (by simp [q'])) (fun q' => hb (by simp [q'])) q) hf⟩
  self := fun A i s Q E st h => wpAny_pyIter_zip st.1 h
def ZipB (K : PySem.W.Frag) (vs : List V) (H : Hp) (R : It → Hp → Prop) : Prop := ∃ (b1 b2 : Bool) (a b : Addr), vs = [.ref a, .ref b] ∧ (∃ xs, SqB K H b1 a xs) ∧ (∃ ys, SqB K H b2 b ys) ∧ R (ItzB K b1 b2 a b) H
def iZipB (K : PySem.W.Frag) (ta : TA) : TI := fun σ H R => ta σ H fun vs H1 => ZipB K vs H1 R
theorem pi_zipB {X : Cx} {K : PySem.W.Frag} {e e2 : Expr} {ta : TA} {p pos tpos : Pos} {elts : List Expr} {kk : Nat} (hg : Gl X "zip") (hm : X.mg "zip" = none) (ha : PA X [e, e2] ta)
    (hs : starEach [e, e2] X.env = (false, eval e X.env) :: starEach [e2] X.env := by rfl) (hpl : (backTo pos (starEach [e2] X.env)).any (·.1) = false := by rfl) (hK : X.K = K := by rfl) :
    PI X (.Tuple elts kk tpos) (.Call (.Name "zip" p) [e, e2] [] pos) (iZipB K ta) := by
  subst hK
  refine ⟨fun pins s σ H R I h => ?_⟩
  refine Call_ (ld_blt I hg hm PyProof.Rows.boot_zip (PyProof.Rows.callWith_type1 (thn (ha.run pos pins s σ H _ I h) fun us s1 ⟨vs, H1, I1, r1, q1⟩ => ?_) hs hpl))
  obtain ⟨b1, b2, a, b, ex, ⟨xs, hqx⟩, ⟨ys, hqy⟩, q⟩ := q1
  subst ex
  obtain ⟨u1, u2, rfl, r1, r2⟩ := Vals.two r1
  obtain rfl : u1 = Value.ref a := r1
  obtain rfl : u2 = Value.ref b := r2
  obtain ⟨its, rv, p1⟩ := hqx.inv I1
  obtain ⟨its2, rv2, p2⟩ := hqy.inv I1
  have la := p1.lt
  have lb := p2.lt
  refine zip_begins2 (begB b1 a its.toArray) (begB b2 b its2.toArray) p1 p2 fun h' hz hTI hTO h1 h2 hsz hk => wpAny_pyIter_zip hz ?_
  have I2 : L2.Inv X pins σ H1 { s1 with heap := h' } := I1.kept (t' := s1.toks) hk
  refine ⟨s1.heap.objs.size + 4, [s1.heap.objs.size + 4, s1.heap.objs.size + 2, s1.heap.objs.size + 3, s1.heap.objs.size, s1.heap.objs.size + 1], _, _, H1, rfl, I2, turn_zipB (PySem.W.ktu_apart s1.heap.objs.size a b la lb), ⟨hz, hTI, ⟨_, _, hTO⟩, itO_at h1, itO_at h2⟩, fun c hcm => ?_, q⟩
  have e' : c = s1.heap.objs.size + 4 ∨ c = s1.heap.objs.size + 2 ∨ c = s1.heap.objs.size + 3 ∨ c = s1.heap.objs.size ∨ c = s1.heap.objs.size + 1 := by simpa using hcm
  have hle : s1.heap.objs.size ≤ c := by
    rcases e' with z | z | z | z | z
    · rw [z]; exact Nat.le_add_right _ _
    · rw [z]; exact Nat.le_add_right _ _
    · rw [z]; exact Nat.le_add_right _ _
    · rw [z]; exact Nat.le_refl _
    · rw [z]; exact Nat.le_add_right _ _
  exact I1.fpOk hle (I1.hok.fresh hle)
theorem v_zipB {K : PySem.W.Frag} {ta : TA} {σ : L2.St} {H : Hp} {R : It → Hp → Prop} (h : ta σ H fun vs H1 => ZipB K vs H1 R) : iZipB K ta σ H R := h
theorem v_zip_ll {K : PySem.W.Frag} {H : Hp} {R : It → Hp → Prop} {a b : Addr} {xs ys : List V} (h1 : SqL K H a xs) (h2 : SqL K H b ys) (h : R (ItzB K false false a b) H) : ZipB K [.ref a, .ref b] H R := ⟨false, false, a, b, rfl, ⟨xs, h1⟩, ⟨ys, h2⟩, h⟩
theorem v_zip_tt {K : PySem.W.Frag} {H : Hp} {R : It → Hp → Prop} {a b : Addr} {xs ys : List V} (h1 : SqT K H a xs) (h2 : SqT K H b ys) (h : R (ItzB K true true a b) H) : ZipB K [.ref a, .ref b] H R := ⟨true, true, a, b, rfl, ⟨xs, h1⟩, ⟨ys, h2⟩, h⟩
theorem v_zip_lt {K : PySem.W.Frag} {H : Hp} {R : It → Hp → Prop} {a b : Addr} {xs ys : List V} (h1 : SqL K H a xs) (h2 : SqT K H b ys) (h : R (ItzB K false true a b) H) : ZipB K [.ref a, .ref b] H R := ⟨false, true, a, b, rfl, ⟨xs, h1⟩, ⟨ys, h2⟩, h⟩
section
variable {g : TG} {tb : TS} {n : L2.St → Hp → Prop} {r : VK} {b c : L2.St → Hp → Prop} {σ : L2.St} {H : Hp} {K : PySem.W.Frag}
theorem v_for_zipB {b1 b2 : Bool} {a1 a2 : Addr} {xs ys : List V} (Pv : Nat → L2.St → Hp → Prop) (h0 : Pv 0 σ H) (hl : ∀ i σ H, Pv i σ H → SqB K H b1 a1 xs ∧ SqB K H b2 a2 ys)
    (hs : ∀ i x y σ H t H', xs[i]? = some x → ys[i]? = some y → Pv i σ H → H t = none → Chg [] H H' → H' t = some (.tup [x, y]) → g (.ref t) σ H' fun σ2 H2 => tb ⟨Pv (i + 1), r, n, Pv (i + 1)⟩ σ2 H2)
    (hd : ∀ σ H, Pv (min xs.length ys.length) σ H → n σ H) : ForQ (ItzB K b1 b2 a1 a2) g tb ⟨n, r, b, c⟩ σ H := by
  refine ⟨fun i m σ H => Pv i σ H ∧ i + m = min xs.length ys.length, ⟨_, h0, Nat.zero_add _⟩, ?_⟩
  rintro i m σ H ⟨hp, hm⟩
  obtain ⟨hq1, hq2⟩ := hl i σ H hp
  by_cases hi : i < min xs.length ys.length
  · refine .inr ⟨⟨xs, ys, xs[i]'(by omega), ys[i]'(by omega), hq1, hq2, List.getElem?_eq_getElem (by omega), List.getElem?_eq_getElem (by omega)⟩, Pv (i + 1), fun σ' H' h => ⟨m - 1, by omega, h, by omega⟩, ?_⟩
    rintro v H' ⟨T, x, y, rfl, hT, rfl, hx, hy⟩
    exact hs i x y σ H T _ (hx xs hq1) (hy ys hq2) hp hT (.new hT) upd_same
  · have e : i = min xs.length ys.length := by omega
    exact .inl ⟨⟨xs, ys, hq1, hq2, by omega, by omega, by omega⟩, by subst e; exact hd σ H hp⟩
end
end RT

namespace RT
open PySem PySem.Spec PyProof.Rows L2
/-! ## 14. texts -/
theorem ofString_inj {a b : String} : (Str.ofString a = Str.ofString b) = (a = b) := by
  apply propext
  constructor
  · intro h
    have h1 : (cpsOfBytes 0 0 a.toByteArray.data.toList).toArray = (cpsOfBytes 0 0 b.toByteArray.data.toList).toArray := congrArg Str.cps h
    have h2 := congrArg Array.toList h1
    rw [cpsOfBytes_string, cpsOfBytes_string] at h2
    have h3 : a.toList = b.toList := (List.map_inj_right (fun x y e => Char.toNat_inj.mp e)).mp h2
    exact String.toList_inj.mp h3
  · rintro rfl; rfl
theorem ofString_cps (a : String) : (Str.ofString a).cps.toList = a.toList.map Char.toNat := by
  show (cpsOfBytes 0 0 a.toByteArray.data.toList).toArray.toList = _
  rw [← cpsOfBytes_string]
/-! ## 15. data: tuples of what never changes -/
inductive D where
  | non
  | bl (b : Bool)
  | int (i : Int)
  | str (s : Str)
  | tup (xs : List D)
mutual
def D.py : D → PyData
  | .non => .none
  | .bl b => .bool b
  | .int i => .int i
  | .str s => .str s
  | .tup xs => .tuple (D.pys xs)
def D.pys : List D → List PyData
  | [] => []
  | x :: xs => x.py :: D.pys xs
end
theorem D.pys_eq : ∀ xs : List D, D.pys xs = xs.map D.py
  | [] => rfl
  | x :: xs => by rw [D.pys, D.pys_eq xs]; rfl
mutual
def D.dep : D → Nat
  | .tup xs => D.deps xs + 1
  | _ => 0
def D.deps : List D → Nat
  | [] => 0
  | x :: xs => max x.dep (D.deps xs)
end
mutual
theorem D.depth_py : ∀ d : D, PyData.depth d.py = d.dep
  | .non => rfl
  | .bl _ => rfl
  | .int _ => rfl
  | .str _ => rfl
  | .tup xs => by rw [D.py, PyData.depth, D.dep, D.depth_pys xs]
theorem D.depth_pys : ∀ xs : List D, PyData.depthAll (D.pys xs) = D.deps xs
  | [] => rfl
  | x :: xs => by rw [D.pys, PyData.depthAll, D.deps, D.depth_py x, D.depth_pys xs]
end
theorem D.deps_le {xs : List D} {n : Nat} (h : ∀ x ∈ xs, x.dep ≤ n) : D.deps xs ≤ n := by
  induction xs with
  | nil => exact Nat.zero_le _
  | cons x xs ih =>
    rw [D.deps]
    have h1 := h x List.mem_cons_self
    have h2 := ih fun y hy => h y (List.mem_cons_of_mem _ hy)
    omega
theorem D.dep_mem {xs : List D} {x : D} (h : x ∈ xs) : x.dep ≤ D.deps xs := by
  induction xs with
  | nil => cases h
  | cons y xs ih =>
    rw [D.deps]
    rcases List.mem_cons.mp h with rfl | h
    · omega
    · have := ih h; omega
/-! v stands for d -/
mutual
inductive Rp (H : Hp) : V → D → Prop
  | non : Rp H .non .non
  | bl (b : Bool) : Rp H (.bl b) (.bl b)
  | int (i : Int) : Rp H (.int i) (.int i)
  | str {s : Str} (h : PyData.strOk s = true) : Rp H (.str s) (.str s)
  | tup {a : Addr} {xs : List V} {ds : List D} : H a = some (.tup xs) → RpA H xs ds → Rp H (.ref a) (.tup ds)
inductive RpA (H : Hp) : List V → List D → Prop
  | nil : RpA H [] []
  | cons {x : V} {xs : List V} {d : D} {ds : List D} : Rp H x d → RpA H xs ds → RpA H (x :: xs) (d :: ds)
end
mutual
theorem Rp.chg {S : List Addr} {H H' : Hp} (c : Chg S H H') : ∀ (d : D) (v : V), Rp H v d → Rp H' v d
  | .non, _, h => by cases h; exact .non
  | .bl b, _, h => by cases h; exact .bl b
  | .int i, _, h => by cases h; exact .int i
  | .str s, _, h => by cases h with | str h => exact .str h
  | .tup ds, _, h => by cases h with | tup e r => exact .tup (c.tup e) (RpA.chg c ds _ r)
theorem RpA.chg {S : List Addr} {H H' : Hp} (c : Chg S H H') : ∀ (ds : List D) (xs : List V), RpA H xs ds → RpA H' xs ds
  | [], _, h => by cases h; exact .nil
  | d :: ds, _, h => by cases h with | cons r t => exact .cons (Rp.chg c d _ r) (RpA.chg c ds _ t)
end
theorem Rp.on {S : List Addr} {H H' : Hp} {v : V} {d : D} (h : Rp H v d) (c : Chg S H H') : Rp H' v d := Rp.chg c d v h
theorem RpA.on {S : List Addr} {H H' : Hp} {xs : List V} {ds : List D} (h : RpA H xs ds) (c : Chg S H H') : RpA H' xs ds := RpA.chg c ds xs h
mutual
theorem Rp.dp {K : PySem.W.Frag} {H : Hp} : ∀ (d : D) (v : V), Rp H v d → L2.Dp K H v d.py
  | .non, _, h => by cases h; exact .non
  | .bl b, _, h => by cases h; exact .bl b
  | .int i, _, h => by cases h; exact .int i
  | .str s, _, h => by cases h with | str h => exact .str s
  | .tup ds, _, h => by cases h with | tup e r => rw [D.py]; exact .tup (SqT.of e) (RpA.dp ds _ r)
theorem RpA.dp {K : PySem.W.Frag} {H : Hp} : ∀ (ds : List D) (xs : List V), RpA H xs ds → L2.DpAll K H xs (D.pys ds)
  | [], _, h => by cases h; exact .nil
  | d :: ds, _, h => by cases h with | cons r t => exact .cons (Rp.dp d _ r) (RpA.dp ds _ t)
end
mutual
theorem Rp.lay {H : Hp} : ∀ (d : D) (v : V), Rp H v d → PyData.canLay0 d.py = true
  | .non, _, h => rfl
  | .bl b, _, h => rfl
  | .int i, _, h => rfl
  | .str s, _, h => by cases h with | str h => exact h
  | .tup ds, _, h => by cases h with | tup e r => rw [D.py, PyData.canLay0]; exact RpA.lay ds _ r
theorem RpA.lay {H : Hp} : ∀ (ds : List D) (xs : List V), RpA H xs ds → PyData.canLayAll0 (D.pys ds) = true
  | [], _, h => rfl
  | d :: ds, _, h => by cases h with | cons r t => rw [D.pys, PyData.canLayAll0, Rp.lay d _ r, RpA.lay ds _ t]; rfl
end
theorem Rp.shaped {H : Hp} {v : V} {d : D} (h : Rp H v d) (hd : d.dep ≤ 64) : SeqAt.shaped d.py = true := by
  unfold SeqAt.shaped
  rw [Rp.lay d v h, D.depth_py, Bool.true_and]
  exact decide_eq_true hd
theorem RpA.shapedL {H : Hp} {xs : List V} {ds : List D} (h : RpA H xs ds) (hd : D.deps ds ≤ 63) : SeqAt.shaped (.list (D.pys ds)) = true := by
  unfold SeqAt.shaped
  rw [PyData.canLay0, RpA.lay ds xs h, PyData.depth, D.depth_pys, Bool.true_and]
  exact decide_eq_true (by omega)
theorem RpA.length {H : Hp} {xs : List V} {ds : List D} (h : RpA H xs ds) : xs.length = ds.length := by
  induction ds generalizing xs with
  | nil => cases h; rfl
  | cons d ds ih => cases h with | cons r t => rw [List.length_cons, List.length_cons, ih t]
theorem RpA.get {H : Hp} {xs : List V} {ds : List D} (h : RpA H xs ds) {i : Nat} {x : V} (e : xs[i]? = some x) : ∃ d, ds[i]? = some d ∧ Rp H x d := by
  induction ds generalizing xs i with
  | nil => cases h; simp at e
  | cons d ds ih =>
    cases h with
    | cons r t =>
      cases i with
      | zero => simp at e; subst e; exact ⟨d, by simp, r⟩
      | succ i => simp at e; simpa using ih t e
theorem RpA.getD {H : Hp} {xs : List V} {ds : List D} (h : RpA H xs ds) {i : Nat} {d : D} (e : ds[i]? = some d) : ∃ x, xs[i]? = some x ∧ Rp H x d := by
  induction ds generalizing xs i with
  | nil => simp at e
  | cons d' ds ih =>
    cases h with
    | cons r t =>
      cases i with
      | zero => simp at e; subst e; exact ⟨_, by simp, r⟩
      | succ i => simp at e; simpa using ih t e
theorem RpA.app {H : Hp} {xs ys : List V} {ds es : List D} (h : RpA H xs ds) (h' : RpA H ys es) : RpA H (xs ++ ys) (ds ++ es) := by
  induction ds generalizing xs with
  | nil => cases h; exact h'
  | cons d ds ih => cases h with | cons r t => exact .cons r (ih t)
theorem RpA.one {H : Hp} {x : V} {d : D} (h : Rp H x d) : RpA H [x] [d] := .cons h .nil
theorem RpA.snoc {H : Hp} {xs : List V} {ds : List D} {x : V} {d : D} (h : RpA H xs ds) (h' : Rp H x d) : RpA H (xs ++ [x]) (ds ++ [d]) := h.app (.one h')
theorem RpA.take {H : Hp} {xs : List V} {ds : List D} (h : RpA H xs ds) (n : Nat) : RpA H (xs.take n) (ds.take n) := by
  induction n generalizing xs ds with
  | zero => exact .nil
  | succ n ih =>
    cases ds with
    | nil => cases h; exact .nil
    | cons d ds => cases h with | cons r t => exact .cons r (ih t)
theorem RpA.drop {H : Hp} {xs : List V} {ds : List D} (h : RpA H xs ds) (n : Nat) : RpA H (xs.drop n) (ds.drop n) := by
  induction n generalizing xs ds with
  | zero => exact h
  | succ n ih =>
    cases ds with
    | nil => cases h; exact .nil
    | cons d ds => cases h with | cons r t => exact ih t
def cutL {α : Type} (xs : List α) (lo hi : Option Int) : List α := (xs.drop (HT.sIx xs.length 0 lo)).take (HT.sIx xs.length xs.length hi - HT.sIx xs.length 0 lo)
theorem RpA.cut {H : Hp} {xs : List V} {ds : List D} (h : RpA H xs ds) (lo hi : Option Int) : RpA H (cutV xs lo hi) (cutL ds lo hi) := by
  unfold cutV cutL
  rw [h.length]
  exact (h.drop _).take _
theorem RpA.mem {H : Hp} {xs : List V} {ds : List D} (h : RpA H xs ds) {x : V} (m : x ∈ xs) : ∃ d, d ∈ ds ∧ Rp H x d := by
  obtain ⟨i, hi, e⟩ := List.getElem_of_mem m
  obtain ⟨d, e', r⟩ := h.get (List.getElem?_eq_some_iff.mpr ⟨hi, e⟩)
  exact ⟨d, List.mem_of_getElem? e', r⟩
theorem RpA.perm {H : Hp} {xs ys : List V} (p : ys.Perm xs) : ∀ {ds : List D}, RpA H xs ds → ∃ es, RpA H ys es ∧ es.Perm ds := by
  induction p with
  | nil => intro ds h; cases h; exact ⟨[], .nil, .nil⟩
  | cons x _ ih => intro ds h; cases h with | cons r t => obtain ⟨es, h1, h2⟩ := ih t; exact ⟨_ :: es, .cons r h1, .cons _ h2⟩
  | swap x y l => intro ds h; cases h with | cons r t => cases t with | cons r2 t2 => exact ⟨_, .cons r2 (.cons r t2), .swap ..⟩
  | trans _ _ ih1 ih2 => intro ds h; obtain ⟨es, h1, h2⟩ := ih2 h; obtain ⟨fs, h3, h4⟩ := ih1 h1; exact ⟨fs, h3, h4.trans h2⟩
/-- == of data -/
def D.eqv (d e : D) : Bool := PyData.eqv d.py e.py
theorem Rp.eqv_refl {H : Hp} {v : V} {d : D} (h : Rp H v d) : D.eqv d d = true := PySem.SeqAt.eqv_refl _ (Rp.lay d v h)
section
variable {H : Hp} {Q : VK} {K : PySem.W.Frag} {x y : V} {d e : D} {a b : Addr} {xs ys : List V} {ds es : List D}
theorem v_eq_D (h1 : Rp H x d) (h2 : Rp H y e) (l1 : d.dep ≤ 64) (l2 : e.dep ≤ 64) (q : Q (.bl (D.eqv d e)) H) : uEq K x y H Q := v_eq_d (Rp.dp d x h1) (Rp.dp e y h2) (h1.shaped l1) (h2.shaped l2) q
theorem v_ne_D (h1 : Rp H x d) (h2 : Rp H y e) (l1 : d.dep ≤ 64) (l2 : e.dep ≤ 64) (q : Q (.bl (!D.eqv d e)) H) : uNe K x y H Q := v_ne_d (Rp.dp d x h1) (Rp.dp e y h2) (h1.shaped l1) (h2.shaped l2) q
theorem v_eq_Dr (h1 : Rp H x d) (h2 : Rp H y d) (l1 : d.dep ≤ 64) (q : Q (.bl true) H) : uEq K x y H Q := v_eq_D h1 h2 l1 l1 (by rw [h1.eqv_refl]; exact q)
theorem v_ne_Dr (h1 : Rp H x d) (h2 : Rp H y d) (l1 : d.dep ≤ 64) (q : Q (.bl false) H) : uNe K x y H Q := v_ne_D h1 h2 l1 l1 (by rw [h1.eqv_refl]; exact q)
/-- lists of data -/
theorem v_eq_Lr (h1 : SqL K H a xs) (h2 : SqL K H b ys) (r1 : RpA H xs ds) (r2 : RpA H ys ds) (l1 : D.deps ds ≤ 63) (q : Q (.bl true) H) : uEq K (.ref a) (.ref b) H Q :=
  v_eq_d (.lst h1 (RpA.dp ds xs r1)) (.lst h2 (RpA.dp ds ys r2)) (r1.shapedL l1) (r2.shapedL l1) (by rw [PyData.eqv, PySem.SeqAt.eqvAll_refl _ (RpA.lay ds xs r1)]; exact q)
theorem v_ne_Lr (h1 : SqL K H a xs) (h2 : SqL K H b ys) (r1 : RpA H xs ds) (r2 : RpA H ys ds) (l1 : D.deps ds ≤ 63) (q : Q (.bl false) H) : uNe K (.ref a) (.ref b) H Q :=
  v_ne_d (.lst h1 (RpA.dp ds xs r1)) (.lst h2 (RpA.dp ds ys r2)) (r1.shapedL l1) (r2.shapedL l1) (by rw [PyData.eqv, PySem.SeqAt.eqvAll_refl _ (RpA.lay ds xs r1)]; exact q)
end
/-! ## 16. keys as data -/
def keyD : Key → D
  | .inl i => .int i
  | .inr s => .str s
def keyOkB : Key → Bool
  | .inl _ => true
  | .inr s => PyData.strOk s
theorem rp_key {H : Hp} {k : Key} (h : keyOkB k = true) : Rp H (kV k) (keyD k) := by
  cases k with
  | inl i => exact .int i
  | inr s => exact .str h
theorem rpA_keys {H : Hp} : ∀ {ks : List Key}, ks.all keyOkB = true → RpA H (ks.map kV) (ks.map keyD)
  | [], _ => .nil
  | k :: ks, h => by
    rw [List.all_cons, Bool.and_eq_true] at h
    exact .cons (rp_key h.1) (rpA_keys h.2)
theorem eqv_key (k l : Key) : PyData.eqv (keyD k).py (keyD l).py = decide (k = l) := by
  cases k <;> cases l
  · rename_i i j
    show (i == j) = _
    by_cases h : i = j
    · subst h; simp
    · have : (Sum.inl i : Key) ≠ Sum.inl j := fun e => h (Sum.inl.inj e)
      simp [h]
  · rfl
  · rfl
  · rename_i i j
    show (i == j) = _
    by_cases h : i = j
    · subst h; simp
    · simp [h]
theorem eqv_keys : ∀ ks ls : List Key, PyData.eqvAll (D.pys (ks.map keyD)) (D.pys (ls.map keyD)) = decide (ks = ls)
  | [], [] => rfl
  | [], _ :: _ => rfl
  | _ :: _, [] => rfl
  | k :: ks, l :: ls => by
    show (PyData.eqv (keyD k).py (keyD l).py && PyData.eqvAll (D.pys (ks.map keyD)) (D.pys (ls.map keyD))) = _
    rw [eqv_key, eqv_keys]
    by_cases h : k = l
    · subst h; simp
    · simp [h]
theorem dep_keys (ks : List Key) : D.deps (ks.map keyD) = 0 := by
  have := D.deps_le (xs := ks.map keyD) (n := 0) fun x hx => by
    obtain ⟨k, _, rfl⟩ := List.mem_map.mp hx
    cases k <;> exact Nat.le_refl 0
  omega
/-- tuples of keys -/
inductive Cls (H : Hp) : List V → List (List Key) → Prop
  | nil : Cls H [] []
  | cons {t : Addr} {xs : List V} {k : List Key} {ks : List (List Key)} : H t = some (.tup (k.map kV)) → Cls H xs ks → Cls H (.ref t :: xs) (k :: ks)
theorem Cls.on {S : List Addr} {H H' : Hp} {xs : List V} {ks : List (List Key)} (h : Cls H xs ks) (c : Chg S H H') : Cls H' xs ks := by
  induction h with
  | nil => exact .nil
  | cons e _ ih => exact .cons (c.tup e) ih
theorem Cls.length {H : Hp} {xs : List V} {ks : List (List Key)} (h : Cls H xs ks) : xs.length = ks.length := by
  induction h with
  | nil => rfl
  | cons e _ ih => rw [List.length_cons, List.length_cons, ih]
theorem Cls.app {H : Hp} {xs ys : List V} {ks ls : List (List Key)} (h : Cls H xs ks) (h' : Cls H ys ls) : Cls H (xs ++ ys) (ks ++ ls) := by
  induction h with
  | nil => exact h'
  | cons e _ ih => exact .cons e ih
theorem Cls.snoc {H : Hp} {xs : List V} {ks : List (List Key)} {t : Addr} {k : List Key} (h : Cls H xs ks) (e : H t = some (.tup (k.map kV))) : Cls H (xs ++ [.ref t]) (ks ++ [k]) := h.app (.cons e .nil)
theorem Cls.get {H : Hp} {xs : List V} {ks : List (List Key)} (h : Cls H xs ks) {i : Nat} {x : V} (e : xs[i]? = some x) : ∃ t k, x = .ref t ∧ ks[i]? = some k ∧ H t = some (.tup (k.map kV)) := by
  induction h generalizing i with
  | nil => simp at e
  | cons e' _ ih =>
    cases i with
    | zero => simp at e; subst e; exact ⟨_, _, rfl, by simp, e'⟩
    | succ i => simp at e; simpa using ih e
theorem Cls.mem {H : Hp} {xs : List V} {ks : List (List Key)} (h : Cls H xs ks) {x : V} (m : x ∈ xs) : ∃ t k, x = .ref t ∧ k ∈ ks ∧ H t = some (.tup (k.map kV)) := by
  obtain ⟨i, hi, e⟩ := List.getElem_of_mem m
  obtain ⟨t, k, e1, e2, e3⟩ := h.get (List.getElem?_eq_some_iff.mpr ⟨hi, e⟩)
  exact ⟨t, k, e1, List.mem_of_getElem? e2, e3⟩
theorem Cls.perm {H : Hp} {xs ys : List V} (p : ys.Perm xs) : ∀ {ks : List (List Key)}, Cls H xs ks → ∃ ls, Cls H ys ls ∧ ls.Perm ks := by
  induction p with
  | nil => intro ds h; cases h; exact ⟨[], .nil, .nil⟩
  | cons x _ ih => intro ds h; cases h with | cons r t => obtain ⟨es, h1, h2⟩ := ih t; exact ⟨_ :: es, .cons r h1, .cons _ h2⟩
  | swap x y l => intro ds h; cases h with | cons r t => cases t with | cons r2 t2 => exact ⟨_, .cons r2 (.cons r t2), .swap ..⟩
  | trans _ _ ih1 ih2 => intro ds h; obtain ⟨es, h1, h2⟩ := ih2 h; obtain ⟨fs, h3, h4⟩ := ih1 h1; exact ⟨fs, h3, h4.trans h2⟩
def cellD (k : List Key) : D := .tup (k.map keyD)
theorem rp_cell {H : Hp} {t : Addr} {k : List Key} (e : H t = some (.tup (k.map kV))) (h : k.all keyOkB = true) : Rp H (.ref t) (cellD k) := .tup e (rpA_keys h)
theorem Cls.rpA {H : Hp} {xs : List V} {ks : List (List Key)} (h : Cls H xs ks) (hk : ∀ k ∈ ks, k.all keyOkB = true) : RpA H xs (ks.map cellD) := by
  induction h with
  | nil => exact .nil
  | cons e _ ih => exact .cons (rp_cell e (hk _ List.mem_cons_self)) (ih fun k m => hk k (List.mem_cons_of_mem _ m))
theorem dep_cell (k : List Key) : (cellD k).dep = 1 := by rw [cellD, D.dep, dep_keys]
theorem dep_cells (ks : List (List Key)) : D.deps (ks.map cellD) ≤ 1 := D.deps_le fun x hx => by
  obtain ⟨k, _, rfl⟩ := List.mem_map.mp hx
  rw [dep_cell]; exact Nat.le_refl 1
def inK (k : List Key) (ks : List (List Key)) : Bool := ks.any fun l => decide (l = k)
theorem inK_iff {k : List Key} {ks : List (List Key)} : inK k ks = true ↔ k ∈ ks := by
  unfold inK
  rw [List.any_eq_true]
  constructor
  · rintro ⟨l, h1, h2⟩
    have : l = k := of_decide_eq_true h2
    subst this; exact h1
  · intro h
    exact ⟨k, h, decide_eq_true rfl⟩
theorem any_cells (ks : List (List Key)) (k : List Key) : ((D.pys (ks.map cellD)).any fun z => PyData.eqv z (cellD k).py) = inK k ks := by
  induction ks with
  | nil => rfl
  | cons l ks ih =>
    show (PyData.eqv (cellD l).py (cellD k).py || _) = (decide (l = k) || inK k ks)
    rw [ih, show PyData.eqv (cellD l).py (cellD k).py = decide (l = k) from eqv_keys l k]
section
variable {H : Hp} {Q : VK} {K : PySem.W.Frag} {t b : Addr} {xs : List V} {k : List Key} {ks : List (List Key)}
/-- a tuple of keys in a list of such -/
theorem v_in_cells (h1 : SqL K H b xs) (hc : Cls H xs ks) (h2 : H t = some (.tup (k.map kV))) (hk : k.all keyOkB = true) (hks : ∀ k ∈ ks, k.all keyOkB = true) (q : Q (.bl (inK k ks)) H) : uIn K false (.ref t) (.ref b) H Q :=
  .inl (.inl (.inr ⟨_, _, Rp.dp _ _ (rp_cell h2 hk), .lst h1 (RpA.dp _ _ (hc.rpA hks)), (rp_cell h2 hk).shaped (by rw [dep_cell]; decide), (hc.rpA hks).shapedL (Nat.le_trans (dep_cells ks) (by decide)), by
    show Q (.bl ((D.pys (ks.map cellD)).any fun z => PyData.eqv z (cellD k).py)) H
    rw [any_cells]; exact q⟩))
theorem v_nin_cells (h1 : SqL K H b xs) (hc : Cls H xs ks) (h2 : H t = some (.tup (k.map kV))) (hk : k.all keyOkB = true) (hks : ∀ k ∈ ks, k.all keyOkB = true) (q : Q (.bl (!inK k ks)) H) : uIn K true (.ref t) (.ref b) H Q :=
  .inl (.inl (.inr ⟨_, _, Rp.dp _ _ (rp_cell h2 hk), .lst h1 (RpA.dp _ _ (hc.rpA hks)), (rp_cell h2 hk).shaped (by rw [dep_cell]; decide), (hc.rpA hks).shapedL (Nat.le_trans (dep_cells ks) (by decide)), by
    show Q (.bl (!(D.pys (ks.map cellD)).any fun z => PyData.eqv z (cellD k).py)) H
    rw [any_cells]; exact q⟩))
/-- sorted of them -/
theorem v_sorted_cells (h : SqL K H b xs) (hc : Cls H xs ks) (hf : ∀ k ∈ ks, ∃ z r, k = .inr z :: r) (hl : ∀ k ∈ ks, ∀ l ∈ ks, likeK k l = true)
    (q : ∀ ys ls p H', Cls H ys ls → ls.Perm ks → ls.Pairwise (fun k l => lexK l k = false) → H p = none → Chg [] H H' → H' p = some (.lst ys) → Q (.ref p) H') : uSorted K [.ref b] H Q := by
  classical
  have key : ∀ x ∈ xs, ∃ (t : Addr) (k : List Key), x = .ref t ∧ k ∈ ks ∧ H t = some (.tup (k.map kV)) := fun x m => hc.mem m
  let f : V → List Key := fun x => if h : ∃ (t : Addr) (k : List Key), x = V.ref t ∧ H t = some (.tup (k.map kV)) then h.choose_spec.choose else []
  have kinj : ∀ {k l : List Key}, k.map kV = l.map kV → k = l := by
    intro k
    induction k with
    | nil => intro l e; cases l with
      | nil => rfl
      | cons y l => cases e
    | cons x k ih => intro l e; cases l with
      | nil => cases e
      | cons y l =>
        simp only [List.map_cons, List.cons.injEq] at e
        have : x = y := by cases x <;> cases y <;> simp [kV] at e <;> simp [e]
        rw [this, ih e.2]
  have fk : ∀ {t : Addr} {k : List Key}, H t = some (.tup (k.map kV)) → f (.ref t) = k := by
    intro t k e
    have hex : ∃ (t' : Addr) (k' : List Key), V.ref t = V.ref t' ∧ H t' = some (.tup (k'.map kV)) := ⟨t, k, rfl, e⟩
    have : f (.ref t) = hex.choose_spec.choose := dif_pos hex
    rw [this]
    have k2 : ∀ (a' : Addr) (k' : List Key), V.ref t = V.ref a' ∧ H a' = some (.tup (k'.map kV)) → k' = k := by
      rintro a' k' ⟨e1, e2⟩
      cases e1
      rw [e] at e2
      simp only [Option.some.injEq, HO.tup.injEq] at e2
      exact (kinj e2).symm
    exact k2 _ _ hex.choose_spec.choose_spec
  have kx : ∀ x ∈ xs, f x ∈ ks ∧ ∃ t, x = .ref t ∧ H t = some (.tup ((f x).map kV)) := fun x m => by
    obtain ⟨t, k, rfl, hk, e⟩ := key x m
    rw [fk e]
    exact ⟨hk, t, rfl, e⟩
  refine .inr ⟨b, xs, fun x => (f x).map kV, fun x y => lexK (f x) (f y), rfl, h, fun x m => ?_, .inl fun x m => ?_, swo_lexK f, fun x mx y my => ?_, fun ys p hs hp hn => ?_⟩
  · obtain ⟨_, t, e, e'⟩ := kx x m
    exact ⟨t, e, SqT.of e'⟩
  · obtain ⟨z, r, e⟩ := hf _ (kx x m).1
    exact ⟨z, r.map kV, by show (f x).map kV = _; rw [e]; rfl⟩
  · exact lexV_keys (hl _ (kx x mx).1 _ (kx y my).1)
  · obtain ⟨ls, c1, c2⟩ := Cls.perm hp hc
    refine q ys ls p _ c1 c2 ?_ hn (.new hn) upd_same
    have el : ls = ys.map f := by
      clear hs hp c2
      induction c1 with
      | nil => rfl
      | cons e _ ih => rw [List.map_cons, fk e, ih]
    rw [el, List.pairwise_map]
    exact hs
end
end RT

namespace Cl
open PySem PySem.Spec PyProof.Rows L2 RT
local macro_rules | `(tactic| walk_at "v0") => `(tactic| first
  | with_reducible refine v_seq ?_
  | with_reducible refine v_next ?_
  | with_reducible refine v_asg ?_
  | with_reducible refine v_name ?_
  | with_reducible refine v_gcons ?_
  | with_reducible refine v_gnil ?_
  | ((with_reducible refine' v_var ?h ?_); case h => exact rfl)
  | with_reducible refine v_c ?_
  | with_reducible refine v_op ?_
  | with_reducible refine v_un ?_
  | with_reducible refine v_cons ?_
  | with_reducible refine v_nil ?_
  | with_reducible refine v_ret ?_
  | with_reducible refine v_drop ?_
  | with_reducible refine v_test ?_
  | with_reducible refine v_isb ?_
  | with_reducible refine v_tru ?_
  | with_reducible refine v_tru_b ?_
  | with_reducible refine v_tru_i ?_
  | with_reducible refine v_tru_n ?_
  | with_reducible refine v_and ?_
  | with_reducible refine v_or ?_
  | with_reducible refine v_not ?_
  | with_reducible refine v_notU ?_
  | with_reducible refine v_andV ?_
  | with_reducible refine v_orV ?_
  | with_reducible refine v_ifE ?_
  | with_reducible refine v_chain ?_
  | with_reducible refine v_callS ?_
  | with_reducible refine v_call ?_
  | with_reducible refine v_cb ?_
  | with_reducible refine v_bm ?_
  | with_reducible refine v_bm0 ?_
  | with_reducible refine v_bms ?_
  | with_reducible refine v_lst ?_
  | with_reducible refine v_tup ?_
  | with_reducible refine v_iteT ?_
  | with_reducible refine v_iteF ?_
  | with_reducible refine v_iteNT ?_
  | with_reducible refine v_iteNF ?_
  | with_reducible refine v_rI0 ?_
  | ((with_reducible refine' v_rI ?h ?_); case h => first | omega | (with_reducible decide) | (refine ⟨?_, ?_⟩ <;> omega) | (unfold CDiv; omega) | (unfold CMul; omega) | (unfold CPow; omega))
  | with_reducible refine v_rU ?_
  | with_reducible refine v_add_ii ?_
  | ((with_reducible refine' v_mul_ii ?h ?_); case h => (unfold CMul; omega))
  | with_reducible refine v_eq_ii ?_
  | with_reducible refine v_ne_ii ?_
  | with_reducible refine v_eq_ss ?_
  | with_reducible refine v_ne_ss ?_
  | with_reducible refine v_lt_ii ?_
  | with_reducible refine v_eq_bb ?_
  | with_reducible refine v_ne_bb ?_
  | with_reducible refine v_bits ?_
  | with_reducible refine v_pcons ?_
  | with_reducible refine v_pnil ?_
  | with_reducible refine v_ipI ?_
  | ((with_reducible refine' v_aug ?h ?_); case h => exact rfl)
  | with_reducible refine v_raise ?_
  | with_reducible refine v_isi_i_int ?_
  | with_reducible refine v_isi_i_bool ?_
  | with_reducible refine v_isi_i_str ?_
  | with_reducible refine v_isi_i_tuple ?_
  | with_reducible refine v_isi_i_list ?_
  | with_reducible refine v_isi_i_dict ?_
  | with_reducible refine v_isi_b_int ?_
  | with_reducible refine v_isi_b_bool ?_
  | with_reducible refine v_isi_b_str ?_
  | with_reducible refine v_isi_b_tuple ?_
  | with_reducible refine v_isi_b_list ?_
  | with_reducible refine v_isi_b_dict ?_
  | with_reducible refine v_isi_s_int ?_
  | with_reducible refine v_isi_s_bool ?_
  | with_reducible refine v_isi_s_str ?_
  | with_reducible refine v_isi_s_tuple ?_
  | with_reducible refine v_isi_s_list ?_
  | with_reducible refine v_isi_s_dict ?_
  | with_reducible refine v_isi_n_int ?_
  | with_reducible refine v_isi_n_bool ?_
  | with_reducible refine v_isi_n_str ?_
  | with_reducible refine v_isi_n_tuple ?_
  | with_reducible refine v_isi_n_list ?_
  | with_reducible refine v_isi_n_dict ?_
  | ((with_reducible refine' v_isi_flat ?h ?g ?_); (case h => first | assumption | exact rfl); (case g => simp [sixT]))
  | with_reducible refine v_sl ?_
  | with_reducible refine v_nopart ?_
  | with_reducible refine v_part ?_
  | with_reducible refine v_isi ?_
  | with_reducible refine v_max2 ?_
  | with_reducible refine v_min2 ?_
  | with_reducible refine v_int_i ?_
  | with_reducible refine v_int_b ?_
  | with_reducible refine v_retN ?_
  | with_reducible refine v_for ?_
  | with_reducible refine v_rng1 ?_
  | with_reducible refine v_rng2 ?_
  | with_reducible refine v_rng3 ?_
  | with_reducible refine v_it ?_
  | with_reducible refine v_enumS ?_
  | with_reducible refine v_zipB ?_
  | with_reducible refine v_lc ?_
  | with_reducible refine v_sub ?_
  | with_reducible refine v_yes ?_
  | with_reducible refine v_break ?_
  | with_reducible refine v_cont ?_)
local macro_rules | `(tactic| walk_at "v") => `(tactic| first | walk_at "v0" | with_reducible refine v_ifs ?_)
local macro_rules | `(tactic| walk_at "vp") => `(tactic| repeat (walk_at "v0"))
local macro_rules | `(tactic| walk_at "vs") => `(tactic| repeat (walk_at "v"))
local macro_rules | `(tactic| walk_at "vi") => `(tactic| first
  | with_reducible refine v_iteD (fun _ => ?_) (fun _ => ?_)
  | with_reducible refine v_iteN (fun _ => ?_) (fun _ => ?_)
  | with_reducible refine v_iteNB (fun _ => ?_) (fun _ => ?_)
  | with_reducible refine v_iteB (fun _ => ?_) (fun _ => ?_))
local macro_rules | `(tactic| walk_at "vx") => `(tactic| repeat' (first | walk_at "v" | walk_at "vi"))

def topS (i : Nat) : Stmt := PySem.Challenge.pw_retrace_k60_last_writers.main.body.getD i (.Pass ⟨0, 0, 0, 0⟩)
structure Txt (K : PySem.W.Frag) (mg : Str → Option Value) : Type where
  n_len : mg "len" = none
  n_range : mg "range" = none
  n_enumerate : mg "enumerate" = none
  n_tuple : mg "tuple" = none
  n_sorted : mg "sorted" = none
  n_list : mg "list" = none
  n_isinstance : mg "isinstance" = none
  n_dict : mg "dict" = none
/-! ### the law's drawing -/
theorem line9 {n : Nat} (h : n ≤ 10000) : n ≤ sizeLine := by rw [sizeLine_eq]; omega
theorem line9' {n : Nat} (h : n ≤ 10000) : n < sizeLine := by rw [sizeLine_eq]; omega
def StAt (H : Hp) (st : Addr) : Prop := ∃ z : Int, H st = some (.lst [.int z]) ∧ 0 ≤ z ∧ z < 2147483629
theorem StAt.on {S : List Addr} {H H' : Hp} {st : Addr} (h : StAt H st) (c : Chg S H H') (n : st ∉ S) : StAt H' st := by
  obtain ⟨z, e, h1, h2⟩ := h
  exact ⟨z, c.keep e n, h1, h2⟩
theorem StAt.on0 {H H' : Hp} {st : Addr} (h : StAt H st) (c : Chg [] H H') : StAt H' st := h.on c (by simp)
/-- a name: one to six small letters -/
def isNm (z : Str) : Bool := decide (1 ≤ z.length) && decide (z.length ≤ 6) && z.cps.toList.all fun c => decide (97 ≤ c) && decide (c ≤ 122)
theorem isNm_ok {z : Str} (h : isNm z = true) : PyData.strOk z = true := by
  simp only [isNm, Bool.and_eq_true, decide_eq_true_eq, List.all_eq_true] at h
  unfold PyData.strOk
  rw [← Array.all_toList, List.all_eq_true]
  intro c hc
  have := (h.2 c hc).2
  exact decide_eq_true (by omega)
theorem isNm_len {z : Str} (h : isNm z = true) : 1 ≤ z.length ∧ z.length ≤ 6 := by
  simp only [isNm, Bool.and_eq_true, decide_eq_true_eq] at h
  exact h.1
theorem abc_at : ∀ n : Fin 26, (Str.ofString "abcdefghijklmnopqrstuvwxyz").cps.toList[n.val]? = some (97 + n.val) := by decide +kernel
theorem abc_len : (Str.ofString "abcdefghijklmnopqrstuvwxyz").cps.toList.length = 26 := by decide +kernel
theorem abc_ix {i : Int} (h0 : 0 ≤ i) (h1 : i < 26) : atI (Str.ofString "abcdefghijklmnopqrstuvwxyz").cps.toList i = some (97 + i.toNat) := by
  have := abc_at ⟨i.toNat, by omega⟩
  unfold atI ixN
  rw [abc_len, if_pos h0, if_pos (by exact_mod_cast h1)]
  exact this
theorem abc_line : (Str.ofString "abcdefghijklmnopqrstuvwxyz").length ≤ sizeLine := line9 (by
  have : (Str.ofString "abcdefghijklmnopqrstuvwxyz").length = 26 := abc_len
  omega)
theorem isNm_one {c : Nat} (h0 : 97 ≤ c) (h1 : c ≤ 122) : isNm ⟨#[c]⟩ = true := by
  simp [isNm, Str.length, h0, h1]
theorem str1_inj {c d : Nat} (h : (⟨#[c]⟩ : Str) = ⟨#[d]⟩) : c = d := by
  have := congrArg (fun z : Str => z.cps.toList) h
  simpa using this
/-! promises -/
def sp_cell (K : PySem.W.Frag) : Sp := fun vs H Q _ => ∃ a ns k, vs = [.ref a, .int k] ∧ SqL K H a (List.map V.int ns) ∧ ns.length ≤ 63 ∧ 0 ≤ k ∧ ∀ i, Q (.int i) H
def sp_state : Sp := fun vs H Q _ => ∃ c k, vs = [.int c, .int k] ∧ ∀ st H', H st = none → Chg [] H H' → StAt H' st → Q (.ref st) H'
def sp_next : Sp := fun vs H Q _ => ∃ st n, vs = [.ref st, .int n] ∧ StAt H st ∧ 1 ≤ n ∧ ∀ i H', 0 ≤ i → i < n → Chg [st] H H' → StAt H' st → Q (.int i) H'
def sp_names : Sp := fun vs H Q _ => ∃ st n, vs = [.ref st, .int n] ∧ StAt H st ∧ 0 ≤ n ∧ n ≤ 26 ∧
  ∀ (a : Addr) (zs : List Str) H', H a = none → Chg [st] H H' → StAt H' st → H' a = some (.lst (zs.map V.str)) → (zs.length : Int) = n → (∀ z ∈ zs, isNm z = true) → zs.Nodup → Q (.ref a) H'
/-! ### the last writers (plain) -/
/-- a note's cells -/
inductive Nks : List D → List (List (List Key)) → Prop
  | nil : Nks [] []
  | cons {y0 y1 y2 y4 y5 : D} {ds : List D} {ks : List (List Key)} {r : List (List (List Key))} : Nks ds r → Nks (.tup [y0, y1, y2, .tup (ks.map cellD), y4, y5] :: ds) (ks :: r)
theorem Nks.get {ds : List D} {st : List (List (List Key))} (h : Nks ds st) {i : Nat} {d : D} (e : ds[i]? = some d) : ∃ y0 y1 y2 y4 y5 ks, d = .tup [y0, y1, y2, .tup (ks.map cellD), y4, y5] ∧ st[i]? = some ks := by
  induction h generalizing i with
  | nil => simp at e
  | cons h ih =>
    cases i with
    | zero => simp at e; subst e; exact ⟨_, _, _, _, _, _, rfl, by simp⟩
    | succ i => simp at e; simpa using ih e
theorem Nks.snoc {ds : List D} {st : List (List (List Key))} {y0 y1 y2 y4 y5 : D} {ks : List (List Key)} (h : Nks ds st) : Nks (ds ++ [.tup [y0, y1, y2, .tup (ks.map cellD), y4, y5]]) (st ++ [ks]) := by
  induction h with
  | nil => exact .cons .nil
  | cons _ ih => exact .cons ih
theorem Nks.length {ds : List D} {st : List (List (List Key))} (h : Nks ds st) : ds.length = st.length := by
  induction h with
  | nil => rfl
  | cons _ ih => rw [List.length_cons, List.length_cons, ih]
theorem keys_of_rp {H : Hp} : ∀ {ks : List Key} {xs : List V}, RpA H xs (ks.map keyD) → xs = ks.map kV
  | [], _, h => by cases h; rfl
  | .inl i :: ks, _, h => by cases h with | cons r t => cases r; rw [keys_of_rp t]; rfl
  | .inr s :: ks, _, h => by cases h with | cons r t => cases r; rw [keys_of_rp t]; rfl
theorem cls_of_rp {H : Hp} : ∀ {ks : List (List Key)} {xs : List V}, RpA H xs (ks.map cellD) → Cls H xs ks
  | [], _, h => by cases h; exact .nil
  | k :: ks, _, h => by
    cases h with
    | cons r t =>
      cases r with
      | tup e r2 => exact .cons (by rw [e, keys_of_rp r2]) (cls_of_rp t)
def lwF (f : List Key → Option V) (s : Int) (ks : List (List Key)) : List Key → Option V := fun k => if inK k ks = true then some (.int s) else f k
def lws (f : List Key → Option V) (s : Int) : List (List (List Key)) → List Key → Option V
  | [] => f
  | ks :: r => lws (lwF f s ks) (s + 1) r
theorem lws_snoc {f : List Key → Option V} {s : Int} {l : List (List (List Key))} {ks : List (List Key)} : lws f s (l ++ [ks]) = lwF (lws f s l) (s + l.length) ks := by
  induction l generalizing f s with
  | nil => show lwF f s ks = lwF f (s + 0) ks; rw [Int.add_zero]
  | cons a l ih =>
    show lws (lwF f s a) (s + 1) (l ++ [ks]) = lwF (lws (lwF f s a) (s + 1) l) _ ks
    rw [ih, List.length_cons]
    congr 1
    omega
theorem lws_int {f : List Key → Option V} {s : Int} {l : List (List (List Key))} (hf : ∀ k v, f k = some v → ∃ i, v = .int i) : ∀ k v, lws f s l k = some v → ∃ i, v = .int i := by
  induction l generalizing f s with
  | nil => exact hf
  | cons a l ih =>
    refine ih fun k v h => ?_
    unfold lwF at h
    split at h
    · cases h; exact ⟨_, rfl⟩
    · exact hf k v h
theorem lws_perm {f g : List Key → Option V} (hfg : f = g) {s : Int} : ∀ {l m : List (List (List Key))}, l.length = m.length → (∀ (i : Nat) (ks ls : List (List Key)), l[i]? = some ks → m[i]? = some ls → ∀ k, inK k ks = inK k ls) → lws f s l = lws g s m := by
  intro l
  induction l generalizing f g s with
  | nil => intro m hl _; cases m with
    | nil => exact hfg
    | cons _ _ => cases hl
  | cons a l ih =>
    intro m hl h
    cases m with
    | nil => cases hl
    | cons b m =>
      refine ih (f := lwF f s a) (g := lwF g s b) ?_ (by simpa using hl) fun i ks ls h1 h2 k => h (i + 1) ks ls (by simpa using h1) (by simpa using h2) k
      funext k
      unfold lwF
      rw [h 0 a b (by simp) (by simp) k, hfg]
theorem inK_take_succ {k : List Key} {ks : List (List Key)} {j : Nat} {c : List Key} (h : ks[j]? = some c) : inK k (ks.take (j + 1)) = (inK k (ks.take j) || decide (c = k)) := by
  rw [List.take_add_one, h]
  unfold inK
  rw [List.any_append]
  simp
theorem inK_snoc {k c : List Key} {ks : List (List Key)} : inK k (ks ++ [c]) = (inK k ks || decide (c = k)) := by
  unfold inK
  rw [List.any_append]
  simp
theorem inK_perm {k : List Key} {ks ls : List (List Key)} (p : ks.Perm ls) : inK k ks = inK k ls := by
  rw [Bool.eq_iff_iff, inK_iff, inK_iff, p.mem_iff]
/-- a dict of cells, as a function -/
structure DicF (H : Hp) (d : Addr) (f : List Key → Option V) (m : Nat) : Prop where
  ex : ∃ kvs, H d = some (.dT kvs) ∧ (kvs.map (·.1)).Nodup ∧ (∀ k, valV kvs k = f k) ∧ kvs.length ≤ m
theorem DicF.on {S : List Addr} {H H' : Hp} {d : Addr} {f : List Key → Option V} {m : Nat} (h : DicF H d f m) (c : Chg S H H') (n : d ∉ S) : DicF H' d f m := by
  obtain ⟨kvs, e, r⟩ := h.ex
  exact ⟨kvs, c.keep e n, r⟩
theorem DicF.eq {H : Hp} {a b : Addr} {f g : List Key → Option V} {m n : Nat} (h1 : DicF H a f m) (h2 : DicF H b g n) (e : f = g) (hi : ∀ k v, f k = some v → ∃ i, v = .int i) :
    ∃ ks ls, H a = some (.dT ks) ∧ H b = some (.dT ls) ∧ ks.length = ls.length ∧ ∀ p ∈ ks, valV ls p.1 = some p.2 ∧ flatB p.2 = true := by
  obtain ⟨ks, e1, n1, v1, _⟩ := h1.ex
  obtain ⟨ls, e2, n2, v2, _⟩ := h2.ex
  refine ⟨ks, ls, e1, e2, assoc_len n1 n2 fun k => by rw [v1, v2, e], fun p hp => ?_⟩
  have := valV_mem n1 hp
  refine ⟨by rw [v2, ← e, ← v1]; exact this, ?_⟩
  rw [v1] at this
  obtain ⟨i, hi⟩ := hi _ _ this
  rw [hi]; rfl
def sp_last (K : PySem.W.Frag) : Sp := fun vs H Q _ => ∃ a xs ds st, vs = [.ref a] ∧ SqL K H a xs ∧ RpA H xs ds ∧ Nks ds st ∧ st.length ≤ 2000 ∧ (∀ ks ∈ st, ks.length ≤ 50) ∧
  ∀ d H', H d = none → Chg [] H H' → DicF H' d (lws (fun _ => none) 1 st) 100000 → Q (.ref d) H'
def CellOk (k : List Key) : Prop := ∃ z : Str, isNm z = true ∧ (k = [.inr "box", .inr z] ∨ k = [.inr "list", .inr z] ∨ ∃ d : Int, k = [.inr "own", .inl d, .inr z])
theorem ok_box : PyData.strOk (Str.ofString "box") = true ∧ PyData.strOk (Str.ofString "list") = true ∧ PyData.strOk (Str.ofString "own") = true ∧ PyData.strOk (Str.ofString "plain") = true := by decide +kernel
theorem CellOk.ok {k : List Key} (h : CellOk k) : k.all keyOkB = true := by
  obtain ⟨z, hz, rfl | rfl | ⟨d, rfl⟩⟩ := h
  all_goals simp [keyOkB, isNm_ok hz, ok_box]
theorem CellOk.first {k : List Key} (h : CellOk k) : ∃ z r, k = .inr z :: r := by
  obtain ⟨z, hz, rfl | rfl | ⟨d, rfl⟩⟩ := h
  all_goals exact ⟨_, _, rfl⟩
theorem CellOk.like {k l : List Key} (h : CellOk k) (h' : CellOk l) : likeK k l = true := by
  obtain ⟨z, hz, rfl | rfl | ⟨d, rfl⟩⟩ := h <;> obtain ⟨y, hy, rfl | rfl | ⟨e, rfl⟩⟩ := h' <;> simp [likeK, ofString_inj]
  all_goals split <;> simp [likeK]
def sp_law (K : PySem.W.Frag) : Sp := fun vs H Q _ => ∃ a ns, vs = [.ref a] ∧ SqL K H a (List.map V.int ns) ∧ ns.length ≤ 63 ∧ ∀ H', Q (.bl true) H'
theorem sp_law_start {K : PySem.W.Frag} {H : Hp} {a : Addr} {ns : List Int} {E : XK} (hl : ns.length ≤ 63) (_ : Only H) (hS : SqL K H a (ns.map V.int)) : sp_law K [.ref a] H (fun v _ => v = .bl true) E :=
  ⟨a, ns, rfl, hS, hl, fun _ => rfl⟩
section
variable {P : Program} {w : World} {K : PySem.W.Frag} {mg : Str → Option Value} {base : Heap}
abbrev s__law_cell_at : Stmt := topS 3
theorem sc__law_cell_at : FnScope ["_law_script", "_law_k"] ["_law_script", "_law_k"] (defScope s__law_cell_at) := ⟨rfl, rfl, rfl, by decide +kernel, rfl, by decide +kernel, by decide +kernel⟩
theorem ok__law_cell_at (T : Txt K mg) (D : DefAt K mg "_law_cell_at" s__law_cell_at) : Own P w K mg base "_law_cell_at" 1 ["_law_script", "_law_k"] (sp_cell K) := by
  refine own_of D (fun _ _ _ _ _ _ us hl => match us, hl with | [_, _], _ => rfl) (fnW_of (N := ["_law_script", "_law_k"]) sc__law_cell_at (fun vs H Q E h => ?_) (fun f cdv A outer s H vs Q E hr h => ?_))
  · obtain ⟨a, ns, k, rfl, _⟩ := h; rfl
  · have nd := sc__law_cell_at.nd
    have hu := L2H.roomH_of hr
    refine ⟨_, (pss_cons (ps_if (pt_cmpR op_ult (pv 1) (pe_callB (call_ulen (K := K)) (by rfl) T.n_len (by decide +kernel) (pa_cons (pv 0) pa_nil)) (nomark _))
      (pss_one (ps_ret (pe_ix (ix_u (K := K) hu) (pv 0) (pv 1) (fun _ _ => rfl)))) pss_nil)
      (pss_one (ps_ret pe_int))), ?_⟩
    clear nd
    obtain ⟨a, ns, k, rfl, hS, hl, k0, q⟩ := h
    walk_at "vs"
    refine v_len_l hS ?_
    walk_at "vs"
    refine v_iteD (fun hk => ?_) (fun hk => ?_)
    · walk_at "vs"
      refine v_ix_lany hS k0 hk fun v hv => ?_
      rw [List.getElem?_map] at hv
      cases e : ns[k.toNat]? with
      | none => rw [e] at hv; cases hv
      | some z => rw [e] at hv; cases hv; exact q z
    · walk_at "vs"
      exact q 0
abbrev s__law_state : Stmt := topS 4
theorem sc__law_state : FnScope ["_law_cell", "_law_k", "_law_drawn"] ["_law_cell", "_law_k"] (defScope s__law_state) := ⟨rfl, rfl, rfl, by decide +kernel, rfl, by decide +kernel, by decide +kernel⟩
theorem ok__law_state (T : Txt K mg) (D : DefAt K mg "_law_state" s__law_state) : Own P w K mg base "_law_state" 1 ["_law_cell", "_law_k"] (sp_state) := by
  refine own_of D (fun _ _ _ _ _ _ us hl => match us, hl with | [_, _], _ => rfl) (fnW_of (N := ["_law_cell", "_law_k", "_law_drawn"]) sc__law_state (fun vs H Q E h => ?_) (fun f cdv A outer s H vs Q E hr h => ?_))
  · obtain ⟨c, k, rfl, _⟩ := h; rfl
  · have nd := sc__law_state.nd
    have hu := L2H.roomH_of hr
    refine ⟨_, (pss_cons (ps_set (i := 2) nd rfl (by first | exact Or.inl rfl | exact Or.inr rfl) (pe_op op_mod (pe_op op_umul (pe_op (op_uadd (K := K)) (pe_op (op_uadd (K := K)) (pv 0) (pe_op op_umul pe_int (pv 1))) pe_int) pe_int) pe_int))
      (pss_one (ps_ret (pe_lst (pa_cons (pe_op op_mod (pe_op (op_uadd (K := K)) (pe_op (op_uadd (K := K)) (pe_op op_umul (pv 2) (pv 2)) (pe_op op_umul pe_int (pv 2))) (pv 1)) pe_int) pa_nil))))), ?_⟩
    clear nd
    obtain ⟨c, k, rfl, q⟩ := h
    walk_at "vs"
    refine v_newL (line9 (by show 1 ≤ 10000; decide)) fun st H1 n1 c1 h1 => ?_
    exact q st H1 n1 c1 ⟨_, h1, by omega, by omega⟩
abbrev s__law_next : Stmt := topS 5
theorem sc__law_next : FnScope ["_law_state_here", "_law_size", "_law_mixed"] ["_law_state_here", "_law_size"] (defScope s__law_next) := ⟨rfl, rfl, rfl, by decide +kernel, rfl, by decide +kernel, by decide +kernel⟩
theorem ok__law_next (T : Txt K mg) (D : DefAt K mg "_law_next" s__law_next) : Own P w K mg base "_law_next" 1 ["_law_state_here", "_law_size"] (sp_next) := by
  refine own_of D (fun _ _ _ _ _ _ us hl => match us, hl with | [_, _], _ => rfl) (fnW_of (N := ["_law_state_here", "_law_size", "_law_mixed"]) sc__law_next (fun vs H Q E h => ?_) (fun f cdv A outer s H vs Q E hr h => ?_))
  · obtain ⟨st, n, rfl, _⟩ := h; rfl
  · have nd := sc__law_next.nd
    have hu := L2H.roomH_of hr
    refine ⟨_, (pss_cons (ps_asg (pe_op op_mod (pe_op (op_uadd (K := K)) (pe_op op_umul (pe_ix (ix_u (K := K) hu) (pv 0) pe_int (fun _ _ => rfl)) pe_int) pe_int) pe_int) (pg_sub (pv 0) pe_int (set_u hu)))
      (pss_cons (ps_set (i := 2) nd rfl (by first | exact Or.inl rfl | exact Or.inr rfl) (pe_op op_mod (pe_op op_umul (pe_ix (ix_u (K := K) hu) (pv 0) pe_int (fun _ _ => rfl)) (pe_ix (ix_u (K := K) hu) (pv 0) pe_int (fun _ _ => rfl))) pe_int))
      (pss_one (ps_ret (pe_op op_mod (pe_op op_fdiv (pv 2) pe_int) (pv 1)))))), ?_⟩
    clear nd
    obtain ⟨st, n, rfl, ⟨z, hz, z0, z1⟩, n1, q⟩ := h
    walk_at "vs"
    refine v_ix_l (SqL.of hz) rfl ?_
    walk_at "vs"
    refine v_set_l hz rfl fun H1 c1 h1 => ?_
    walk_at "vs"
    refine v_ix_l (SqL.of h1) rfl ?_
    walk_at "vs"
    refine v_ix_l (SqL.of h1) rfl ?_
    walk_at "vs"
    exact q _ H1 (Int.emod_nonneg _ (by omega)) (Int.emod_lt_of_pos _ (by omega)) c1 ⟨_, h1, by omega, by omega⟩
abbrev s__law_names : Stmt := topS 6
theorem sc__law_names : FnScope ["_law_state_here", "_law_amount", "_law_letters", "_law_words", "_law_shift", "_law_found", "_law_k", "_law_name", "_law_kind"] ["_law_state_here", "_law_amount"] (defScope s__law_names) := ⟨rfl, rfl, rfl, by decide +kernel, rfl, by decide +kernel, by decide +kernel⟩
theorem ok__law_names (T : Txt K mg) (D : DefAt K mg "_law_names" s__law_names) (O__law_next : Own P w K mg base "_law_next" 1 ["_law_state_here", "_law_size"] (sp_next)) : Own P w K mg base "_law_names" 2 ["_law_state_here", "_law_amount"] (sp_names) := by
  refine own_of D (fun _ _ _ _ _ _ us hl => match us, hl with | [_, _], _ => rfl) (fnW_of (N := ["_law_state_here", "_law_amount", "_law_letters", "_law_words", "_law_shift", "_law_found", "_law_k", "_law_name", "_law_kind"]) sc__law_names (fun vs H Q E h => ?_) (fun f cdv A outer s H vs Q E hr h => ?_))
  · obtain ⟨st, n, rfl, _⟩ := h; rfl
  · have nd := sc__law_names.nd
    have hu := L2H.roomH_of hr
    have TK : L2N.Takes (cxOf (L2N.CX P w) P w K mg base ["_law_state_here", "_law_amount", "_law_letters", "_law_words", "_law_shift", "_law_found", "_law_k", "_law_name", "_law_kind"] "_law_names" (defScope s__law_names) f cdv A outer s H E) (fun cls d _ H => E cls d H) := L2N.takes_of rfl rfl rfl rfl
    refine ⟨_, (pss_cons (ps_set (i := 2) nd rfl (by first | exact Or.inl rfl | exact Or.inr rfl) pe_str)
      (pss_cons (ps_set (i := 3) nd rfl (by first | exact Or.inl rfl | exact Or.inr rfl) (pe_lst (pa_cons pe_str (pa_cons pe_str (pa_cons pe_str (pa_cons pe_str (pa_cons pe_str (pa_cons pe_str (pa_cons pe_str (pa_cons pe_str (pa_cons pe_str (pa_cons pe_str (pa_cons pe_str (pa_cons pe_str pa_nil))))))))))))))
      (pss_cons (ps_set (i := 4) nd rfl (by first | exact Or.inl rfl | exact Or.inr rfl) (pe_own O__law_next (by decide) hr rfl (fun σ => L2N.passAt TK σ) (pa_cons (pv 0) (pa_cons pe_int pa_nil))))
      (pss_cons (ps_set (i := 5) nd rfl (by first | exact Or.inl rfl | exact Or.inr rfl) (pe_lst pa_nil))
      (pss_cons (ps_for (passes_of rfl) rfl (pi_range1 rfl T.n_range (pa_cons (pv 1) pa_nil)) (pg_name (i := 6) nd rfl (by first | exact Or.inl rfl | exact Or.inr rfl))
      (pss_cons (ps_set (i := 7) nd rfl (by first | exact Or.inl rfl | exact Or.inr rfl) (pe_ix (ix_u (K := K) hu) (pv 2) (pe_op op_mod (pe_op (op_uadd (K := K)) (pv 4) (pv 6)) pe_int) (fun _ _ => rfl)))
      (pss_cons (ps_set (i := 8) nd rfl (by first | exact Or.inl rfl | exact Or.inr rfl) (pe_own O__law_next (by decide) hr rfl (fun σ => L2N.passAt TK σ) (pa_cons (pv 0) (pa_cons pe_int pa_nil))))
      (pss_cons (ps_if (pt_cmpR op_ult (pv 8) pe_int (nomark _))
      (pss_one (ps_set (i := 7) nd rfl (by first | exact Or.inl rfl | exact Or.inr rfl) (pe_ix (ix_u (K := K) hu) (pe_lst (pa_cons (pe_ix (ix_u (K := K) hu) (pv 3) (pe_own O__law_next (by decide) hr rfl (fun σ => L2N.passAt TK σ) (pa_cons (pv 0) (pa_cons pe_int pa_nil))) (fun _ _ => rfl)) (pa_cons (pe_op (op_uadd (K := K)) pe_str (pv 7)) pa_nil))) (pv 8) (fun _ _ => rfl)))) pss_nil)
      (pss_cons (ps_if (pt_cmpR (op_uin (K := K) hu) (pv 7) (pv 5) rfl)
      (pss_one (ps_set (i := 7) nd rfl (by first | exact Or.inl rfl | exact Or.inr rfl) (pe_ix (ix_u (K := K) hu) (pv 2) (pe_op op_mod (pe_op (op_uadd (K := K)) (pv 4) (pv 6)) pe_int) (fun _ _ => rfl)))) pss_nil)
      (pss_one (ps_expr (pe_bm PySem.F.plainAttrs_list PySem.F.slot_list_append PySem.F.type_list_append mt_append (pv 5) (pa_cons (pv 7) pa_nil)))))))))
      (pss_one (ps_ret (pv 5)))))))), ?_⟩
    clear nd
    obtain ⟨st, n, rfl, hst, n0, n1, q⟩ := h
    walk_at "vs"
    refine v_newL (line9 (by show 12 ≤ 10000; decide)) fun w1 H1 nw c1 hw => ?_
    walk_at "vs"
    refine ⟨st, 26, rfl, hst.on0 c1, by omega, fun sh H2 sh0 sh1 c2 hst2 => ?_⟩
    have nst : st ≠ w1 := by rintro rfl; obtain ⟨z, e, _⟩ := hst; rw [nw] at e; cases e
    walk_at "vs"
    refine v_newL (line9 (by show 0 ≤ 10000; decide)) fun f1 H3 nf c3 hf => ?_
    have nf0 : H f1 = none := c1.dom (c2.dom nf)
    have fst : f1 ≠ st := by rintro rfl; obtain ⟨z, e, _⟩ := hst; rw [nf0] at e; cases e
    have fw : f1 ≠ w1 := by rintro rfl; rw [c2.dom nf] at hw; cases hw
    walk_at "vs"
    refine v_rng1' (by omega) (by omega) ?_
    refine v_for_range (fun i σ H' => ∃ (v1 v2 v3 : Option V) (zs : List Str), σ = [some (.ref st), some (.int n), some (.str "abcdefghijklmnopqrstuvwxyz"), some (.ref w1), some (.int sh), some (.ref f1), v1, v2, v3] ∧ Chg [st, f1] H3 H' ∧ StAt H' st ∧ H' f1 = some (.lst (zs.map V.str)) ∧
      zs.length = i ∧ (∀ z ∈ zs, isNm z = true) ∧ zs.Nodup ∧ (∀ z ∈ zs, 2 ≤ z.length ∨ ∃ j : Int, 0 ≤ j ∧ j < i ∧ z = ⟨#[97 + ((sh + j) % 26).toNat]⟩)) ⟨none, none, none, [], rfl, .refl, hst2.on0 c3, hf, rfl, by simp, by simp, by simp⟩ ?_ ?_
    · rintro i σ H4 hi ⟨v1, v2, v3, zs, rfl, c4, hst4, hf4, hl, hnm, hnd, hone⟩
      have l0 : 0 ≤ (sh + (0 + (i : Int))) % 26 := Int.emod_nonneg _ (by decide)
      have l1 : (sh + (0 + (i : Int))) % 26 < 26 := Int.emod_lt_of_pos _ (by decide)
      have hw4 : H4 w1 = some (.lst _) := c4.keep (c3.at (c2.keep hw (by simpa using fun e => nst e.symm))) (by simp only [List.mem_cons, List.not_mem_nil, or_false, not_or]; exact ⟨fun e => nst e.symm, fun e => fw e.symm⟩)
      have one : isNm ⟨#[97 + ((sh + (0 + (i : Int))) % 26).toNat]⟩ = true := isNm_one (by omega) (by omega)
      have fresh : (⟨#[97 + ((sh + (0 + (i : Int))) % 26).toNat]⟩ : Str) ∉ zs := fun m => by
        rcases hone _ m with h | ⟨j, j0, j1, e⟩
        · exact absurd h (by show ¬ 2 ≤ 1; decide)
        · have := str1_inj e
          omega
      -- what is put at the end: a name that is not there yet
      have put : ∀ (x : Str) (H5 : Hp) (v9 : Option V), isNm x = true → x ∉ zs → (2 ≤ x.length ∨ x = ⟨#[97 + ((sh + (0 + (i : Int))) % 26).toNat]⟩) → Chg [st, f1] H3 H5 → StAt H5 st → H5 f1 = some (.lst (zs.map V.str)) →
          rAppend (.ref f1) [.str x] H5 fun _ H6 => ∃ (v1 v2 v3 : Option V) (zs' : List Str), [some (V.ref st), some (.int n), some (.str "abcdefghijklmnopqrstuvwxyz"), some (.ref w1), some (.int sh), some (.ref f1), some (.int (0 + i)), some (.str x), v9] = [some (.ref st), some (.int n), some (.str "abcdefghijklmnopqrstuvwxyz"), some (.ref w1), some (.int sh), some (.ref f1), v1, v2, v3] ∧ Chg [st, f1] H3 H6 ∧ StAt H6 st ∧ H6 f1 = some (.lst (zs'.map V.str)) ∧
      zs'.length = i + 1 ∧ (∀ z ∈ zs', isNm z = true) ∧ zs'.Nodup ∧ (∀ z ∈ zs', 2 ≤ z.length ∨ ∃ j : Int, 0 ≤ j ∧ j < ((i + 1 : Nat) : Int) ∧ z = ⟨#[97 + ((sh + j) % 26).toNat]⟩) := by
        intro x H5 v9 hx hn hx1 c5 hst5 hf5
        refine v_append hf5 (by rw [List.length_map, hl]; exact line9' (by omega)) fun H6 c6 hf6 => ?_
        refine ⟨_, _, v9, zs ++ [x], rfl, c5.trans (c6.mono (by simp)), hst5.on c6 (by simpa using fun e => fst e.symm), by rw [hf6, List.map_append]; rfl, by simp [hl], ?_, ?_, ?_⟩
        · intro z hz
          rcases List.mem_append.mp hz with h | h
          · exact hnm z h
          · rw [List.mem_singleton] at h; subst h; exact hx
        · rw [List.nodup_append]
          refine ⟨hnd, by simp, ?_⟩
          intro a ha b hb e
          rw [List.mem_singleton] at hb
          subst hb; subst e; exact hn ha
        · intro z hz
          rcases List.mem_append.mp hz with h | h
          · rcases hone z h with h | ⟨j, j0, j1, e⟩
            · exact .inl h
            · exact .inr ⟨j, j0, by omega, e⟩
          · rw [List.mem_singleton] at h
            subst h
            rcases hx1 with h | h
            · exact .inl h
            · exact .inr ⟨0 + i, by omega, by omega, h⟩
      walk_at "vs"
      refine v_ix_s abc_line (abc_ix l0 l1) ?_
      walk_at "vs"
      refine ⟨st, 6, rfl, hst4, by omega, fun kd H5 kd0 kd1 c5 hst5 => ?_⟩
      have c35 : Chg [st, f1] H3 H5 := c4.trans (c5.mono (by simp))
      have hf5 : H5 f1 = some (.lst (zs.map V.str)) := c5.keep hf4 (by simpa using fst)
      have hw5 := c5.keep hw4 (by simpa using fun e => nst e.symm)
      walk_at "vp"
      refine v_join (fun σ H6 => ∃ x, σ = [some (.ref st), some (.int n), some (.str "abcdefghijklmnopqrstuvwxyz"), some (.ref w1), some (.int sh), some (.ref f1), some (.int (0 + i)), some (.str x), some (.int kd)] ∧ isNm x = true ∧ (2 ≤ x.length ∨ x = ⟨#[97 + ((sh + (0 + (i : Int))) % 26).toNat]⟩) ∧ Chg [st, f1] H3 H6 ∧ StAt H6 st ∧ H6 f1 = some (.lst (zs.map V.str))) ?_ ?_
      · rintro σ H6 ⟨x, rfl, hx, hx1, c6, hst6, hf6⟩
        walk_at "vs"
        refine v_in_l (SqL.of hf6) rfl (flat_strs zs) ?_
        rw [inV_strs]
        walk_at "vs"
        refine v_iteD (fun hm => ?_) (fun hm => ?_)
        · walk_at "vs"
          refine v_ix_s abc_line (abc_ix l0 l1) ?_
          walk_at "vs"
          refine v_bml (SqL.of hf6) ?_
          walk_at "vs"
          exact put _ H6 (some (.int kd)) one fresh (.inr rfl) c6 hst6 hf6
        · walk_at "vs"
          refine v_bml (SqL.of hf6) ?_
          walk_at "vs"
          exact put _ H6 (some (.int kd)) hx hm hx1 c6 hst6 hf6
      · intro U hU
        walk_at "vs"
        refine v_iteD (fun hk => ?_) (fun hk => ?_)
        · walk_at "vs"
          refine ⟨st, 12, rfl, hst5, by omega, fun j H6 j0 j1 c6 hst6 => ?_⟩
          walk_at "vs"
          refine v_ix_lany (SqL.of (c6.keep hw5 (by simpa using fun e => nst e.symm))) j0 j1 fun v hv => ?_
          obtain ⟨x, rfl, hx, hx2⟩ : ∃ x, v = .str x ∧ isNm x = true ∧ 2 ≤ x.length := by
            have := List.mem_of_getElem? hv
            simp only [List.mem_cons, List.not_mem_nil, or_false] at this
            rcases this with rfl | rfl | rfl | rfl | rfl | rfl | rfl | rfl | rfl | rfl | rfl | rfl
            all_goals exact ⟨_, rfl, by decide +kernel, by decide +kernel⟩
          walk_at "vs"
          refine v_add_ss (line9 ?_) ?_
          · show (Str.ofString "aaaaa").length + 1 ≤ 10000
            have : (Str.ofString "aaaaa").length = 5 := by decide +kernel
            omega
          walk_at "vs"
          refine v_newL (line9 (by show 2 ≤ 10000; decide)) fun g1 H7 ng c7 hg => ?_
          walk_at "vs"
          have c37 : Chg [st, f1] H3 H7 := (c35.trans (c6.mono (by simp))).trans c7.of0
          have hf7 : H7 f1 = some (.lst (zs.map V.str)) := c7.at (c6.keep hf5 (by simpa using fst))
          have hst7 := hst6.on0 c7
          refine v_ix_lany (SqL.of hg) kd0 (by show kd < 2; omega) fun v hv => ?_
          obtain ⟨y, rfl, hy, hy2⟩ : ∃ y, v = .str y ∧ isNm y = true ∧ 2 ≤ y.length := by
            rcases (show kd = 0 ∨ kd = 1 by omega) with e | e
            · subst e; cases hv; exact ⟨_, rfl, hx, hx2⟩
            · subst e; cases hv
              have key : ∀ n : Fin 26, isNm (Str.ofString "aaaaa" ++ ⟨#[97 + n.val]⟩) = true ∧ 2 ≤ (Str.ofString "aaaaa" ++ (⟨#[97 + n.val]⟩ : Str)).length := by decide +kernel
              have := key ⟨((sh + (0 + (i : Int))) % 26).toNat, by omega⟩
              exact ⟨_, rfl, this.1, this.2⟩
          walk_at "vs"
          exact hU _ _ ⟨y, rfl, hy, .inl hy2, c37, hst7, hf7⟩
        · walk_at "vs"
          exact hU _ _ ⟨_, rfl, one, .inr rfl, c35, hst5, hf5⟩
    · rintro σ H4 ⟨v1, v2, v3, zs, rfl, c4, hst4, hf4, hl, hnm, hnd, hone⟩
      walk_at "vs"
      refine q f1 zs H4 nf0 ?_ hst4 hf4 (by omega) hnm hnd
      refine (c1.of0.trans (c2.trans c3.of0)).trans' c4 fun l hm => ?_
      simp only [List.mem_cons, List.not_mem_nil, or_false] at hm
      rcases hm with rfl | rfl
      · exact .inl (by simp)
      · exact .inr nf0
abbrev s_last_writers : Stmt := topS 1
theorem sc_last_writers : FnScope ["notes", "found", "step", "note", "cell"] ["notes"] (defScope s_last_writers) := ⟨rfl, rfl, rfl, by decide +kernel, rfl, by decide +kernel, by decide +kernel⟩
theorem ok_last_writers (T : Txt K mg) (D : DefAt K mg "last_writers" s_last_writers) : Own P w K mg base "last_writers" 1 ["notes"] (sp_last K) := by
  refine own_of D (fun _ _ _ _ _ _ us hl => match us, hl with | [_], _ => rfl) (fnW_of (N := ["notes", "found", "step", "note", "cell"]) sc_last_writers (fun vs H Q E h => ?_) (fun f cdv A outer s H vs Q E hr h => ?_))
  · obtain ⟨a, xs, ds, st, rfl, _⟩ := h; rfl
  · have nd := sc_last_writers.nd
    have hu := L2H.roomH_of hr
    refine ⟨_, (pss_cons (ps_set (i := 1) nd rfl (by first | exact Or.inl rfl | exact Or.inr rfl) pe_dnewT)
      (pss_cons (ps_for (passes_of rfl) rfl (pi_enumS (K := K) rfl T.n_enumerate (pa_cons (pv 0) (pa_cons pe_int pa_nil))) (pg_tup rfl (pgs_cons (pg_name (i := 2) nd rfl (by first | exact Or.inl rfl | exact Or.inr rfl)) (pgs_cons (pg_name (i := 3) nd rfl (by first | exact Or.inl rfl | exact Or.inr rfl)) pgs_nil)))
      (pss_one (ps_for (passes_of rfl) rfl (pi_u (K := K) (pe_ix (ix_u (K := K) hu) (pv 3) pe_int (fun _ _ => rfl))) (pg_name (i := 4) nd rfl (by first | exact Or.inl rfl | exact Or.inr rfl))
      (pss_one (ps_asg (pv 2) (pg_sub (pv 1) (pv 4) (set_u hu)))))))
      (pss_one (ps_ret (pv 1))))), ?_⟩
    clear nd
    obtain ⟨a, xs, ds, st, rfl, hS, hR, hN, hl, hk, q⟩ := h
    have lB : ∀ {n : Nat}, n ≤ 100000 → n < sizeLine := fun h => by rw [sizeLine_eq]; omega
    walk_at "vs"
    refine v_dnewT fun d H0 nd c0 hd => ?_
    walk_at "vs"
    refine v_enumS_l (c0.seqL hS) (by decide) (by decide) ?_
    have hlx : xs.length = st.length := hR.length.trans hN.length
    refine v_for_enumS (xs := xs) (fun i σ H' => ∃ v2 v3 v4, σ = [some (.ref a), some (.ref d), v2, v3, v4] ∧ Chg [d] H0 H' ∧ DicF H' d (lws (fun _ => none) 1 (st.take i)) (50 * i)) ⟨none, none, none, rfl, .refl, [], hd, by simp, fun k => rfl, by simp⟩ ?_ ?_ ?_
    · rintro i σ H' hi ⟨v2, v3, v4, rfl, c1, _⟩
      refine (c0.of0.trans c1).seqLS hS fun o ho => ?_
      simp only [List.mem_singleton]
      rintro rfl
      rw [nd] at ho; cases ho
    · rintro i x σ H1 t H2 hx ⟨v2, v3, v4, rfl, c1, hD⟩ nt c2 ht
      have dt : d ≠ t := by rintro rfl; obtain ⟨kvs, e, _⟩ := hD.ex; rw [nt] at e; cases e
      obtain ⟨y, hy, ry⟩ := hR.get hx
      obtain ⟨y0, y1, y2, y4, y5, ks, rfl, hst⟩ := hN.get hy
      have hks := hk ks (List.mem_of_getElem? hst)
      have cc : Chg [d] H H2 := (c0.of0.trans c1).trans c2.of0
      have ry2 := ry.on cc
      cases ry2 with
      | @tup ta vs _ e r =>
      obtain ⟨w3, e3, r3⟩ := r.getD (i := 3) (d := .tup (ks.map cellD)) rfl
      cases r3 with
      | @tup tb ws _ eb rb =>
      have hc := cls_of_rp rb
      refine v_gtup (SqT.of ht) rfl ?_
      walk_at "vs"
      refine v_ix_t (SqT.of e) (atI_nat e3) ?_
      refine v_it_t (SqT.of eb) ?_
      refine v_for_tup (xs := ws) (fun j σ H' => ∃ v4, σ = [some (.ref a), some (.ref d), some (.int (1 + i)), some (.ref ta), v4] ∧ Chg [d] H2 H' ∧ DicF H' d (lwF (lws (fun _ => none) 1 (st.take i)) (1 + i) (ks.take j)) (50 * i + j)) ?_ ?_ ?_ ?_
      · refine ⟨v4, rfl, .refl, ?_⟩
        obtain ⟨kvs, e, n, v, l⟩ := hD.ex
        exact ⟨kvs, c2.at e, n, fun k => by rw [v]; rfl, by omega⟩
      · rintro j σ H' _ ⟨v4, rfl, c3, _⟩
        exact SqT.of (c3.tup eb)
      · rintro j w σ H3 hw ⟨v4, rfl, c3, hD3⟩
        obtain ⟨tc, k, rfl, hkj, ek⟩ := hc.get hw
        walk_at "vs"
        obtain ⟨kvs, e4, n4, v5, l4⟩ := hD3.ex
        have hj : j < ks.length := (List.getElem?_eq_some_iff.mp hkj).1
        have hi : i < st.length := (List.getElem?_eq_some_iff.mp hst).1
        refine v_set_t e4 (c3.tup ek) (lB (by omega)) fun H4 c4 hd4 => ?_
        refine ⟨_, rfl, c3.trans c4, _, hd4, nd_put kvs k _ n4, fun k' => ?_, Nat.le_trans (length_putK kvs k _) (by omega)⟩
        rw [valV_put, v5]
        unfold lwF
        rw [inK_take_succ hkj]
        by_cases z : k' = k
        · subst z; simp
        · have z' : ¬ k = k' := fun e => z e.symm
          simp [z, z']
      · rintro σ H3 ⟨v4, rfl, c3, hD3⟩
        walk_at "vs"
        refine ⟨_, _, _, rfl, (c1.trans c2.of0).trans c3, ?_⟩
        obtain ⟨kvs, e4, n4, v5, l4⟩ := hD3.ex
        have el : ws.length = ks.length := hc.length
        refine ⟨kvs, e4, n4, fun k => ?_, by omega⟩
        rw [v5, List.take_add_one, hst]
        show _ = lws _ 1 (st.take i ++ [ks]) k
        have hi : i < st.length := (List.getElem?_eq_some_iff.mp hst).1
        rw [lws_snoc, List.length_take, show min i st.length = i by omega, el, List.take_length]
    · rintro σ H1 ⟨v2, v3, v4, rfl, c1, hD⟩
      walk_at "vs"
      rw [hlx, List.take_length] at hD
      refine q d H1 nd (c0.trans' c1 fun l hm => ?_) ?_
      · rw [List.mem_singleton] at hm; subst hm; exact .inr nd
      · obtain ⟨kvs, e4, n4, v5, l4⟩ := hD.ex
        exact ⟨kvs, e4, n4, v5, by omega⟩
abbrev s_law : Stmt := topS 15
theorem sc_law : FnScope ["_law_script", "_law_state_here", "_law_names_here", "_law_cells", "_law_name", "_law_some", "_law_due", "_law_step", "_law_wrote", "_law_turn", "_law_cell", "_law_handed", "_law_found"] ["_law_script"] (defScope s_law) := ⟨rfl, rfl, rfl, by decide +kernel, rfl, by decide +kernel, by decide +kernel⟩
theorem bw_law : BindW s_law "law" ["_law_script"] := (fun _ _ _ _ _ _ us hl => match us, hl with | [_], _ => rfl)
theorem ok_law (T : Txt K mg) (O__law_state : Own P w K mg base "_law_state" 1 ["_law_cell", "_law_k"] (sp_state)) (O__law_cell_at : Own P w K mg base "_law_cell_at" 1 ["_law_script", "_law_k"] (sp_cell K)) (O__law_names : Own P w K mg base "_law_names" 2 ["_law_state_here", "_law_amount"] (sp_names)) (O__law_next : Own P w K mg base "_law_next" 1 ["_law_state_here", "_law_size"] (sp_next)) (O_last_writers : Own P w K mg base "last_writers" 1 ["notes"] (sp_last K)) : FnW P w K mg base "law" s_law 3 ["_law_script"] (sp_law K) := by
  refine fnW_of (N := ["_law_script", "_law_state_here", "_law_names_here", "_law_cells", "_law_name", "_law_some", "_law_due", "_law_step", "_law_wrote", "_law_turn", "_law_cell", "_law_handed", "_law_found"]) sc_law (fun vs H Q E h => ?_) (fun f cdv A outer s H vs Q E hr h => ?_)
  · obtain ⟨a, ns, rfl, _⟩ := h; rfl
  · have nd := sc_law.nd
    have hu := L2H.roomH_of hr
    have TK : L2N.Takes (cxOf (L2N.CX P w) P w K mg base ["_law_script", "_law_state_here", "_law_names_here", "_law_cells", "_law_name", "_law_some", "_law_due", "_law_step", "_law_wrote", "_law_turn", "_law_cell", "_law_handed", "_law_found"] "law" (defScope s_law) f cdv A outer s H E) (fun cls d _ H => E cls d H) := L2N.takes_of rfl rfl rfl rfl
    refine ⟨_, (pss_cons (ps_set (i := 1) nd rfl (by first | exact Or.inl rfl | exact Or.inr rfl) (pe_own O__law_state (by decide) hr rfl (fun σ => L2N.passAt TK σ) (pa_cons (pe_own O__law_cell_at (by decide) hr rfl (fun σ => L2N.passAt TK σ) (pa_cons (pv 0) (pa_cons pe_int pa_nil))) (pa_cons pe_int pa_nil))))
      (pss_cons (ps_set (i := 2) nd rfl (by first | exact Or.inl rfl | exact Or.inr rfl) (pe_own O__law_names (by decide) hr rfl (fun σ => L2N.passAt TK σ) (pa_cons (pv 1) (pa_cons pe_int pa_nil))))
      (pss_cons (ps_set (i := 3) nd rfl (by first | exact Or.inl rfl | exact Or.inr rfl) (pe_op (op_uadd (K := K)) (pe_lc (own := [("_law_name", 4)]) rfl nd (pi_u (K := K) (pv 2)) (blkOk_by (N := ["_law_script", "_law_state_here", "_law_names_here", "_law_cells", "_law_name", "_law_some", "_law_due", "_law_step", "_law_wrote", "_law_turn", "_law_cell", "_law_handed", "_law_found"]) (sc := defScope s_law) (by decide +kernel)) (fun _ _ _ _ _ => (pg_name (i := 4) nd rfl (by first | exact Or.inl rfl | exact Or.inr rfl))) (fun _ _ _ _ _ => pts_nil) (fun _ _ _ _ _ => (pe_tup (pa_cons pe_str (pa_cons (pv 4) pa_nil))))) (pe_lc (own := [("_law_name", 4)]) rfl nd (pi_u (K := K) (pe_slice (sl_u (K := K)) (pv 2) po_none (po_some pe_int))) (blkOk_by (N := ["_law_script", "_law_state_here", "_law_names_here", "_law_cells", "_law_name", "_law_some", "_law_due", "_law_step", "_law_wrote", "_law_turn", "_law_cell", "_law_handed", "_law_found"]) (sc := defScope s_law) (by decide +kernel)) (fun _ _ _ _ _ => (pg_name (i := 4) nd rfl (by first | exact Or.inl rfl | exact Or.inr rfl))) (fun _ _ _ _ _ => pts_nil) (fun _ _ _ _ _ => (pe_tup (pa_cons pe_str (pa_cons (pv 4) pa_nil)))))))
      (pss_cons (ps_set (i := 3) nd rfl (by first | exact Or.inl rfl | exact Or.inr rfl) (pe_op (op_uadd (K := K)) (pv 3) (pe_lc (own := [("_law_name", 4)]) rfl nd (pi_u (K := K) (pe_slice (sl_u (K := K)) (pv 2) po_none (po_some pe_int))) (blkOk_by (N := ["_law_script", "_law_state_here", "_law_names_here", "_law_cells", "_law_name", "_law_some", "_law_due", "_law_step", "_law_wrote", "_law_turn", "_law_cell", "_law_handed", "_law_found"]) (sc := defScope s_law) (by decide +kernel)) (fun _ _ _ _ _ => (pg_name (i := 4) nd rfl (by first | exact Or.inl rfl | exact Or.inr rfl))) (fun _ _ _ _ _ => pts_nil) (fun _ _ _ _ _ => (pe_tup (pa_cons pe_str (pa_cons (pe_op (op_uadd (K := K)) pe_int (pe_own O__law_next (by decide) hr rfl passN (pa_cons (pv 1) (pa_cons pe_int pa_nil)))) (pa_cons (pv 4) pa_nil))))))))
      (pss_cons (ps_set (i := 5) nd rfl (by first | exact Or.inl rfl | exact Or.inr rfl) (pe_lst pa_nil))
      (pss_cons (ps_set (i := 6) nd rfl (by first | exact Or.inl rfl | exact Or.inr rfl) pe_dnewT)
      (pss_cons (ps_for (passes_of rfl) rfl (pi_range2 rfl T.n_range (pa_cons pe_int (pa_cons (pe_op (op_uadd (K := K)) pe_int (pe_own O__law_next (by decide) hr rfl (fun σ => L2N.passAt TK σ) (pa_cons (pv 1) (pa_cons pe_int pa_nil)))) pa_nil))) (pg_name (i := 7) nd rfl (by first | exact Or.inl rfl | exact Or.inr rfl))
      (pss_cons (ps_set (i := 8) nd rfl (by first | exact Or.inl rfl | exact Or.inr rfl) (pe_lst pa_nil))
      (pss_cons (ps_for (passes_of rfl) rfl (pi_range1 rfl T.n_range (pa_cons (pe_own O__law_next (by decide) hr rfl (fun σ => L2N.passAt TK σ) (pa_cons (pv 1) (pa_cons pe_int pa_nil))) pa_nil)) (pg_name (i := 9) nd rfl (by first | exact Or.inl rfl | exact Or.inr rfl))
      (pss_cons (ps_set (i := 10) nd rfl (by first | exact Or.inl rfl | exact Or.inr rfl) (pe_ix (ix_u (K := K) hu) (pv 3) (pe_own O__law_next (by decide) hr rfl (fun σ => L2N.passAt TK σ) (pa_cons (pv 1) (pa_cons (pe_callB (call_ulen (K := K)) (by rfl) T.n_len (by decide +kernel) (pa_cons (pv 3) pa_nil)) pa_nil))) (fun _ _ => rfl)))
      (pss_cons (ps_if (pt_cmpR (op_unin (K := K) hu) (pv 10) (pv 8) rfl)
      (pss_one (ps_expr (pe_bm PySem.F.plainAttrs_list PySem.F.slot_list_append PySem.F.type_list_append mt_append (pv 8) (pa_cons (pv 10) pa_nil)))) pss_nil)
      (pss_one (ps_asg (pv 7) (pg_sub (pv 6) (pv 10) (set_u hu)))))))
      (pss_one (ps_expr (pe_bm PySem.F.plainAttrs_list PySem.F.slot_list_append PySem.F.type_list_append mt_append (pv 5) (pa_cons (pe_tup (pa_cons (pe_own O__law_next (by decide) hr rfl (fun σ => L2N.passAt TK σ) (pa_cons (pv 1) (pa_cons pe_int pa_nil))) (pa_cons pe_str (pa_cons (pe_tup (pa_cons (pe_ix (ix_u (K := K) hu) (pv 3) pe_int (fun _ _ => rfl)) pa_nil)) (pa_cons (pe_callTy (call_utuple (K := K)) (by rfl) T.n_tuple (by decide +kernel) (pa_cons (pe_callB (cr_usorted (K := K)) (by rfl) T.n_sorted (by decide +kernel) (pa_cons (pv 8) pa_nil)) pa_nil)) (pa_cons (pe_un un_neg pe_int) (pa_cons (pe_un un_neg pe_int) pa_nil))))))) pa_nil)))))))
      (pss_cons (ps_set (i := 11) nd rfl (by first | exact Or.inl rfl | exact Or.inr rfl) (pe_callTy (call_ulist (K := K) rfl) (by rfl) T.n_list (by decide +kernel) (pa_cons (pv 5) pa_nil)))
      (pss_cons (ps_set (i := 12) nd rfl (by first | exact Or.inl rfl | exact Or.inr rfl) (pe_own O_last_writers (by decide) hr rfl (fun σ => L2N.passAt TK σ) (pa_cons (pv 11) pa_nil)))
      (pss_cons (ps_if (PW.pt (pw_or (pt_not (pt_u (K := K) (pe_callB (call_uisi (K := K)) (by rfl) T.n_isinstance (by decide +kernel) (pa_cons (pv 12) (pa_cons (pe_bltn (v := .ty "dict") (by rfl) T.n_dict (by decide +kernel) rfl) pa_nil))))) (pw_or (pt_cmpR (op_une (K := K) hu) (pv 12) (pv 6) (nomark _)) (pw_or1 (pt_cmpR (op_une (K := K) hu) (pv 11) (pv 5) (nomark _))))))
      (pss_one (ps_ret pe_bl)) pss_nil)
      (pss_cons (ps_asg pe_int (pg_sub (pv 12) (pe_tup (pa_cons pe_str (pa_cons pe_str pa_nil))) (set_u hu)))
      (pss_one (ps_ret (pe_cmpR (op_ueq (K := K) hu) (pe_own O_last_writers (by decide) hr rfl (fun σ => L2N.passAt TK σ) (pa_cons (pv 11) pa_nil)) (pv 6) (nomark _))))))))))))))), ?_⟩
    clear nd
    obtain ⟨a, ns, rfl, hS, hl, q⟩ := h
    walk_at "vs"
    refine ⟨a, ns, 0, rfl, hS, hl, by omega, fun c0 => ?_⟩
    walk_at "vs"
    refine ⟨c0, 1, rfl, fun st H1 nst c1 hst => ?_⟩
    walk_at "vs"
    refine ⟨st, 4, rfl, hst, by omega, by omega, fun nm zs H2 nnm c2 hst2 hnm hzl hzn _ => ?_⟩
    walk_at "vs"
    have stnm : st ≠ nm := by rintro rfl; obtain ⟨z, e, _⟩ := hst; rw [nnm] at e; cases e
    refine v_it_l (SqL.of hnm) ?_
    refine v_lc_list [] (fun i acc H' => ∃ ks, Cls H' acc ks ∧ (∀ k ∈ ks, CellOk k) ∧ ks.length = i) (by simp) (fun H' c => SqL.of (c.at hnm)) (fun _ _ => ⟨[], .nil, by simp, rfl⟩) ?_ ?_
    · rintro D i x acc H3 hx nD dS c3 hD ⟨ks, hc, hk, hkl⟩
      obtain ⟨z, hz, rfl⟩ := List.mem_map.mp (List.mem_of_getElem? hx)
      have hi : i < 4 := by have := (List.getElem?_eq_some_iff.mp hx).1; rw [List.length_map] at this; omega
      walk_at "vs"
      refine ⟨rfl, ?_⟩
      walk_at "vs"
      refine v_newT (line9 (by show 2 ≤ 10000; decide)) fun t H4 nt c4 ht => ?_
      refine v_lcA c3 hD nD dS c4 (line9' (by have := hc.length; omega)) fun H5 c5 => ?_
      refine ⟨ks ++ [[.inr "box", .inr z]], ((hc.on c4).on c5).snoc (k := [.inr "box", .inr z]) (c5.tup ht), fun k hm => ?_, by simp [hkl]⟩
      rcases List.mem_append.mp hm with h | h
      · exact hk k h
      · rw [List.mem_singleton] at h; subst h; exact ⟨z, hzn z hz, .inl rfl⟩
    rintro L1 acc1 H3 c3 nL1 hL1 ⟨ks1, hc1, hk1, hkl1⟩
    walk_at "vs"
    refine v_sl_l (SqL.of (c3.at hnm)) fun p1 H4 np1 c4 hp1 => ?_
    refine v_it_l (SqL.of hp1) ?_
    refine v_lc_list [] (fun i acc H' => ∃ ks, Cls H' acc ks ∧ (∀ k ∈ ks, CellOk k) ∧ ks.length = i) (by simp) (fun H' c => SqL.of (c.at hp1)) (fun _ _ => ⟨[], .nil, by simp, rfl⟩) ?_ ?_
    · rintro D i x acc H5 hx nD dS c5 hD ⟨ks, hc, hk, hkl⟩
      obtain ⟨z, hz, rfl⟩ := List.mem_map.mp (cut_mem (List.mem_of_getElem? hx))
      have hi : i < 4 := by
        have h1 := (List.getElem?_eq_some_iff.mp hx).1
        have h2 := cutV_length (zs.map V.str) none (some 3)
        rw [List.length_map] at h2; omega
      walk_at "vs"
      refine ⟨rfl, ?_⟩
      walk_at "vs"
      refine v_newT (line9 (by show 2 ≤ 10000; decide)) fun t H6 nt c6 ht => ?_
      refine v_lcA c5 hD nD dS c6 (line9' (by have := hc.length; omega)) fun H7 c7 => ?_
      refine ⟨ks ++ [[.inr "list", .inr z]], ((hc.on c6).on c7).snoc (k := [.inr "list", .inr z]) (c7.tup ht), fun k hm => ?_, by simp [hkl]⟩
      rcases List.mem_append.mp hm with h | h
      · exact hk k h
      · rw [List.mem_singleton] at h; subst h; exact ⟨z, hzn z hz, .inr (.inl rfl)⟩
    rintro L2 acc2 H5 c5 nL2 hL2 ⟨ks2, hc2, hk2, hkl2⟩
    have hb1 : ks1.length = 4 := by rw [hkl1, List.length_map]; omega
    have hb2 : ks2.length ≤ 4 := by
      have h2 := cutV_length (zs.map V.str) none (some 3)
      rw [List.length_map] at h2; omega
    have e1 := hc1.length
    have e2 := hc2.length
    walk_at "vs"
    refine v_add_ll ((c4.trans c5).at hL1) hL2 (line9 (by omega)) fun cl H6 ncl c6 hcl => ?_
    have hC : Cls H6 (acc1 ++ acc2) (ks1 ++ ks2) := (hc1.on ((c4.trans c5).trans c6)).app (hc2.on c6)
    have hst6 : StAt H6 st := hst2.on0 (((c3.trans c4).trans c5).trans c6)
    have hnm6 : H6 nm = some (.lst (zs.map V.str)) := (((c3.trans c4).trans c5).trans c6).at hnm
    have hkk : ∀ k ∈ ks1 ++ ks2, CellOk k := fun k hm => (List.mem_append.mp hm).elim (hk1 k) (hk2 k)
    walk_at "vs"
    refine v_sl_l (SqL.of hnm6) fun p2 H7 np2 c7 hp2 => ?_
    have stp2 : st ≠ p2 := by rintro rfl; obtain ⟨z, e, _⟩ := hst6; rw [np2] at e; cases e
    refine v_it_l (SqL.of hp2) ?_
    refine v_lc_list [st] (fun i acc H' => StAt H' st ∧ ∃ ks, Cls H' acc ks ∧ (∀ k ∈ ks, CellOk k) ∧ ks.length = i) (by
        intro b hb; rw [List.mem_singleton] at hb; subst hb
        obtain ⟨z, e, _⟩ := hst6.on0 c7; rw [e]; simp) (fun H' c => SqL.of (c.keep hp2 (by simpa using fun e => stp2 e.symm))) (fun H' c => ⟨(hst6.on0 c7).on0 c, [], .nil, by simp, rfl⟩) ?_ ?_
    · rintro D i x acc H8 hx nD dS c8 hD ⟨hst8, ks, hc, hk, hkl⟩
      obtain ⟨z, hz, rfl⟩ := List.mem_map.mp (cut_mem (List.mem_of_getElem? hx))
      have hi : i < 4 := by
        have h1 := (List.getElem?_eq_some_iff.mp hx).1
        have h2 := cutV_length (zs.map V.str) none (some 3)
        rw [List.length_map] at h2; omega
      walk_at "vs"
      refine ⟨rfl, ?_⟩
      walk_at "vs"
      refine ⟨st, 7, rfl, hst8, by omega, fun dp H9 dp0 dp1 c9 hst9 => ?_⟩
      walk_at "vs"
      refine v_newT (line9 (by show 3 ≤ 10000; decide)) fun t H10 nt c10 ht => ?_
      have cc : Chg [st] H8 H10 := c9.trans c10.of0
      refine v_lcA c8 hD nD dS cc (line9' (by have := hc.length; omega)) fun H11 c11 => ?_
      have Dst : st ≠ D := by rintro rfl; simp at dS
      refine ⟨(hst9.on0 c10).on c11 (by simpa using Dst), ks ++ [[.inr "own", .inl (1 + dp), .inr z]], ((hc.on cc).on c11).snoc (k := [.inr "own", .inl (1 + dp), .inr z]) (c11.tup ht), fun k hm => ?_, by simp [hkl]⟩
      rcases List.mem_append.mp hm with h | h
      · exact hk k h
      · rw [List.mem_singleton] at h; subst h; exact ⟨z, hzn z hz, .inr (.inr ⟨_, rfl⟩)⟩
    rintro L3 acc3 H8 c8 nL3 hL3 ⟨hst8, ks3, hc3, hk3, hkl3⟩
    have hb3 : ks3.length ≤ 4 := by
      have h2 := cutV_length (zs.map V.str) none (some 3)
      rw [List.length_map] at h2; omega
    have e3 := hc3.length
    have stcl : st ≠ cl := by
      rintro rfl
      obtain ⟨z, e, _⟩ := hst2.on0 ((c3.trans c4).trans c5)
      rw [ncl] at e; cases e
    have hcl8 : H8 cl = some (.lst (acc1 ++ acc2)) := c8.keep (c7.at hcl) (by simpa using fun e => stcl e.symm)
    walk_at "vs"
    refine v_add_ll hcl8 hL3 (line9 (by rw [List.length_append]; omega)) fun cs H9 ncs c9 hcs => ?_
    have hCs : Cls H9 ((acc1 ++ acc2) ++ acc3) ((ks1 ++ ks2) ++ ks3) := (((hC.on c7).on c8).on c9).app (hc3.on c9)
    have hks : ∀ k ∈ (ks1 ++ ks2) ++ ks3, CellOk k := fun k hm => (List.mem_append.mp hm).elim (hkk k) (hk3 k)
    have hst9 := hst8.on0 c9
    have hlen : 1 ≤ ((acc1 ++ acc2) ++ acc3).length ∧ ((acc1 ++ acc2) ++ acc3).length ≤ 12 := by rw [List.length_append, List.length_append]; omega
    generalize (acc1 ++ acc2) ++ acc3 = cells at hCs hcs hlen
    generalize (ks1 ++ ks2) ++ ks3 = kcs at hCs hks
    clear hC hc1 hc2 hc3 hL1 hL2 hL3 hcl hcl8 hkk hk1 hk2 hk3
    have stcs : st ≠ cs := by rintro rfl; obtain ⟨z, e, _⟩ := hst8; rw [ncs] at e; cases e
    walk_at "vs"
    refine v_newL (line9 (by show 0 ≤ 10000; decide)) fun so H10 nso c10 hso => ?_
    walk_at "vs"
    refine v_dnewT fun du H11 ndu c11 hdu => ?_
    walk_at "vs"
    have hst11 : StAt H11 st := (hst9.on0 c10).on0 c11
    have hcs11 : H11 cs = some (.lst cells) := (c10.trans c11).at hcs
    have hso11 : H11 so = some (.lst []) := c11.at hso
    have hCs11 : Cls H11 cells kcs := hCs.on (c10.trans c11)
    have nst_so : st ≠ so := by rintro rfl; obtain ⟨z, e, _⟩ := hst9; rw [nso] at e; cases e
    have nst_du : st ≠ du := by rintro rfl; obtain ⟨z, e, _⟩ := hst9.on0 c10; rw [ndu] at e; cases e
    have ncs_so : cs ≠ so := by rintro rfl; rw [nso] at hcs; cases hcs
    have ncs_du : cs ≠ du := by rintro rfl; rw [c10.dom ndu] at hcs; cases hcs
    have nso_du : so ≠ du := by rintro rfl; rw [ndu] at hso; cases hso
    have kC : ∀ {H'}, Chg [st, so, du] H11 H' → H' cs = some (.lst cells) := fun c => c.keep hcs11 (by simp only [List.mem_cons, List.not_mem_nil, or_false, not_or]; exact ⟨fun e => stcs e.symm, ncs_so, ncs_du⟩)
    refine ⟨st, 41, rfl, hst11, by omega, fun am H12 am0 am1 c12 hst12 => ?_⟩
    walk_at "vs"
    refine v_rng2' (by omega) (by omega) (by omega) (by omega) ?_
    have hso12 : H12 so = some (.lst []) := c12.keep hso11 (by simpa using fun e => nst_so e.symm)
    have hdu12 : H12 du = some (.dT []) := c12.keep hdu (by simpa using fun e => nst_du e.symm)
    refine v_for_range (fun i σ H' => ∃ v1 v2 v3 v4, σ = [some (.ref a), some (.ref st), some (.ref nm), some (.ref cs), none, some (.ref so), some (.ref du), v1, v2, v3, v4, none, none] ∧ Chg [st, so, du] H11 H' ∧ StAt H' st ∧
        ∃ (xs : List V) (ds : List D) (sl sl' : List (List (List Key))), H' so = some (.lst xs) ∧ RpA H' xs ds ∧ Nks ds sl ∧ sl.length = i ∧ (∀ ks ∈ sl, ks.length ≤ 50) ∧ D.deps ds ≤ 3 ∧
          DicF H' du (lws (fun _ => none) 1 sl') (3 * i) ∧ sl'.length = i ∧ (∀ (j : Nat) (ks ls : List (List Key)), sl[j]? = some ks → sl'[j]? = some ls → ∀ k, inK k ks = inK k ls))
      ⟨none, none, none, none, rfl, c12.mono (by simp), hst12, [], [], [], [], hso12, .nil, .nil, rfl, by simp, by decide, ⟨[], hdu12, by simp, fun k => rfl, by simp⟩, rfl, by simp⟩ ?_ ?_
    · rintro i σ H13 hi ⟨v1, v2, v3, v4, rfl, c13, hst13, xs, ds, sl, sl', hso13, hR, hN, hsl, hs50, hdep, hD, hsl', hin⟩
      walk_at "vs"
      refine v_newL (line9 (by show 0 ≤ 10000; decide)) fun wr H14 nwr c14 hwr => ?_
      have nwr_st : wr ≠ st := by rintro rfl; obtain ⟨z, e, _⟩ := hst13; rw [nwr] at e; cases e
      have nwr_so : wr ≠ so := by rintro rfl; rw [nwr] at hso13; cases hso13
      have nwr_du : wr ≠ du := by rintro rfl; obtain ⟨kvs, e, _⟩ := hD.ex; rw [nwr] at e; cases e
      walk_at "vs"
      refine ⟨st, 4, rfl, hst13.on0 c14, by omega, fun tn H15 tn0 tn1 c15 hst15 => ?_⟩
      walk_at "vs"
      refine v_rng1' (by omega) (by omega) ?_
      refine v_for_range (fun j σ H' => ∃ v3 v4, σ = [some (.ref a), some (.ref st), some (.ref nm), some (.ref cs), none, some (.ref so), some (.ref du), some (.int (1 + i)), some (.ref wr), v3, v4, none, none] ∧ Chg [st, du, wr] H14 H' ∧ StAt H' st ∧
          ∃ (ws : List V) (ks : List (List Key)) (dr : List (List Key)), H' wr = some (.lst ws) ∧ Cls H' ws ks ∧ (∀ k ∈ ks, CellOk k) ∧ ks.length ≤ j ∧ DicF H' du (lwF (lws (fun _ => none) 1 sl') (1 + i) dr) (3 * i + j) ∧ (∀ k, inK k ks = inK k dr))
        ?_ ?_ ?_
      · refine ⟨v3, v4, rfl, c15.mono (by simp), hst15, [], [], [], c15.keep hwr (by simpa using nwr_st), .nil, by simp, by simp, ?_, fun k => rfl⟩
        obtain ⟨kvs, e, n, v, l⟩ := ((hD.on c14 (by simp)).on c15 (by simpa using fun e => nst_du e.symm)).ex
        exact ⟨kvs, e, n, fun k => by rw [v]; rfl, by omega⟩
      · rintro j σ H16 hj ⟨v3, v4, rfl, c16, hst16, ws, ks, dr, hwr16, hcw, hkw, hlw, hD16, hind⟩
        have c1316 : Chg [st, du] H13 H16 := c14.of0.trans' c16 fun l hm => by
          simp only [List.mem_cons, List.not_mem_nil, or_false] at hm ⊢
          rcases hm with rfl | rfl | rfl
          · exact .inl (.inl rfl)
          · exact .inl (.inr rfl)
          · exact .inr nwr
        have cC : Chg [st, so, du] H11 H16 := c13.trans (c1316.mono (by simp))
        walk_at "vs"
        refine v_len_l (SqL.of (kC cC)) ?_
        walk_at "vs"
        refine ⟨st, cells.length, rfl, hst16, by omega, fun ix H17 ix0 ix1 c17 hst17 => ?_⟩
        have cC17 : Chg [st, so, du] H11 H17 := cC.trans (c17.mono (by simp))
        walk_at "vs"
        refine v_ix_lany (SqL.of (kC cC17)) ix0 ix1 fun v hv => ?_
        obtain ⟨t, k, rfl, hkt, ek⟩ := (hCs11.on cC17).get hv
        have hkm := hks k (List.mem_of_getElem? hkt)
        have hwr17 := c17.keep hwr16 (by simpa using nwr_st)
        walk_at "vp"
        refine v_join (fun σ H' => σ = [some (.ref a), some (.ref st), some (.ref nm), some (.ref cs), none, some (.ref so), some (.ref du), some (.int (1 + i)), some (.ref wr), some (.int (0 + j)), some (.ref t), none, none] ∧ Chg [wr] H17 H' ∧
          ∃ (ws : List V) (ks : List (List Key)), H' wr = some (.lst ws) ∧ Cls H' ws ks ∧ (∀ k ∈ ks, CellOk k) ∧ ks.length ≤ j + 1 ∧ ∀ k', inK k' ks = (inK k' dr || decide (k = k'))) ?_ ?_
        · rintro σ H18 ⟨rfl, c18, ws, ks, hwr18, hcw, hkw, hlw, hind⟩
          walk_at "vs"
          obtain ⟨kvs, e, n, v, l⟩ := ((hD16.on c17 (by simpa using fun e => nst_du e.symm)).on c18 (by simpa using fun e => nwr_du e.symm)).ex
          refine v_set_t e (c18.tup ek) (line9' (by omega)) fun H19 c19 hd19 => ?_
          have cw : Chg [st, du, wr] H14 H19 := ((c16.trans (c17.mono (by simp))).trans (c18.mono (by simp))).trans (c19.mono (by simp))
          refine ⟨_, _, rfl, cw, (hst17.on c18 (by simpa using fun e => nwr_st e.symm)).on c19 (by simpa using nst_du), ws, ks, dr ++ [k], c19.keep hwr18 (by simpa using nwr_du), hcw.on c19, hkw, hlw, ⟨_, hd19, nd_put _ _ _ n, fun k' => ?_, Nat.le_trans (length_putK _ _ _) (by omega)⟩, fun k' => by rw [hind, inK_snoc]⟩
          rw [valV_put, v]
          unfold lwF
          rw [inK_snoc]
          by_cases z : k' = k
          · subst z; simp
          · have z' : ¬ k = k' := fun e => z e.symm
            simp [z, z']
        · intro U hU
          walk_at "vs"
          refine v_nin_cells (SqL.of hwr17) (hcw.on c17) ek hkm.ok (fun k hk => (hkw k hk).ok) ?_
          walk_at "vs"
          refine v_iteNB (fun hn => ?_) (fun hy => ?_)
          · walk_at "vs"
            refine v_bml (SqL.of hwr17) ?_
            walk_at "vs"
            have := hcw.length
            refine v_append hwr17 (line9' (by omega)) fun H18 c18 hwr18 => ?_
            refine hU _ _ ⟨rfl, c18, _, ks ++ [k], hwr18, ((hcw.on c17).on c18).snoc (c18.tup ek), fun k' hm => ?_, by simp; omega, fun k' => by rw [inK_snoc, hind]⟩
            rcases List.mem_append.mp hm with h | h
            · exact hkw k' h
            · rw [List.mem_singleton] at h; subst h; exact hkm
          · walk_at "vs"
            refine hU _ _ ⟨rfl, .refl, ws, ks, hwr17, hcw.on c17, hkw, by omega, fun k' => ?_⟩
            rw [hind]
            by_cases z : k = k'
            · subst z; rw [hind] at hy; rw [hy]; rfl
            · simp [z]
      · rintro σ H16 ⟨v3, v4, rfl, c16, hst16, ws, ks, dr, hwr16, hcw, hkw, hlw, hD16, hind⟩
        have c1316 : Chg [st, du] H13 H16 := c14.of0.trans' c16 fun l hm => by
          simp only [List.mem_cons, List.not_mem_nil, or_false] at hm ⊢
          rcases hm with rfl | rfl | rfl
          · exact .inl (.inl rfl)
          · exact .inl (.inr rfl)
          · exact .inr nwr
        have cC : Chg [st, so, du] H11 H16 := c13.trans (c1316.mono (by simp))
        have hso16 := c1316.keep hso13 (by simp only [List.mem_cons, List.not_mem_nil, or_false, not_or]; exact ⟨fun e => nst_so e.symm, nso_du⟩)
        walk_at "vs"
        refine v_bml (SqL.of hso16) ?_
        walk_at "vs"
        refine ⟨st, 60, rfl, hst16, by omega, fun dr2 H17 _ _ c17 hst17 => ?_⟩
        have cC17 : Chg [st, so, du] H11 H17 := cC.trans (c17.mono (by simp))
        walk_at "vs"
        refine v_ix_lany (SqL.of (kC cC17)) (by decide) (by omega) fun v hv => ?_
        obtain ⟨t, k, rfl, hkt, ek⟩ := (hCs11.on cC17).get hv
        have hkm := hks k (List.mem_of_getElem? hkt)
        walk_at "vs"
        refine v_newT (line9 (by show 1 ≤ 10000; decide)) fun t1 H18 nt1 c18 ht1 => ?_
        walk_at "vs"
        have hwr18 := c18.at (c17.keep hwr16 (by simpa using nwr_st))
        refine v_sorted_cells (SqL.of hwr18) ((hcw.on c17).on c18) (fun k hk => (hkw k hk).first) (fun k hk l hl => (hkw k hk).like (hkw l hl)) fun ys ls p H19 hcy hpl _ np c19 hp => ?_
        walk_at "vs"
        refine v_tuple_l (SqL.of hp) fun t2 H20 nt2 c20 ht2 => ?_
        walk_at "vs"
        refine v_newT (line9 (by show 6 ≤ 10000; decide)) fun t3 H21 nt3 c21 ht3 => ?_
        walk_at "vs"
        have c1821 : Chg [] H18 H21 := (c19.trans c20).trans c21
        have c1721 : Chg [] H17 H21 := c18.trans c1821
        have hso21 := c1721.at (c17.keep hso16 (by simpa using fun e => nst_so e.symm))
        have hdsl := hN.length
        refine v_append hso21 (line9' (by have := hR.length; omega)) fun H22 c22 hso22 => ?_
        have cA : Chg [so] H21 H22 := c22
        have hls : ∀ k ∈ ls, CellOk k := fun k hk => hkw k (hpl.mem_iff.mp hk)
        have rn : Rp H21 (.ref t3) (.tup [.int dr2, .str "plain", .tup [cellD k], .tup (ls.map cellD), .int (-1), .int (-1)]) :=
          .tup ht3 (.cons (.int _) (.cons (.str ok_box.2.2.2) (.cons (.tup (c1821.tup ht1) (.one (rp_cell (c1721.tup ek) hkm.ok))) (.cons (.tup (c21.tup ht2) ((((hcy.on c19).on c20).on c21).rpA fun k hk => (hls k hk).ok)) (.cons (.int _) (.cons (.int _) .nil))))))
        have c1321 : Chg [st, du] H13 H21 := (c1316.trans (c17.mono (by simp))).trans c1721.of0
        refine ⟨_, _, _, _, rfl, (c13.trans (c1321.mono (by simp))).trans (cA.mono (by simp)), (hst17.on0 c1721).on cA (by simpa using nst_so), _, _, sl ++ [ls], sl' ++ [dr], hso22, (((hR.on c1321).snoc rn).on cA), hN.snoc, by simp [hsl], ?_, ?_, ?_, by simp [hsl'], ?_⟩
        · intro ks' hm
          rcases List.mem_append.mp hm with h | h
          · exact hs50 ks' h
          · rw [List.mem_singleton] at h; subst h
            have := hpl.length_eq
            omega
        · refine D.deps_le fun x hx => ?_
          rcases List.mem_append.mp hx with h | h
          · exact Nat.le_trans (D.dep_mem h) hdep
          · rw [List.mem_singleton] at h; subst h
            have := dep_cells ls
            simp only [D.dep, D.deps, dep_cell]
            omega
        · obtain ⟨kvs, e, n, v, l⟩ := (((hD16.on c17 (by simpa using fun e => nst_du e.symm)).on c1721 (by simp)).on cA (by simpa using fun e => nso_du e.symm)).ex
          refine ⟨kvs, e, n, fun k => ?_, by omega⟩
          rw [v, lws_snoc, hsl']
        · intro j ks' ls' h1 h2 k'
          rcases Nat.lt_or_ge j i with c | c
          · rw [List.getElem?_append_left (by omega)] at h1 h2
            exact hin j ks' ls' h1 h2 k'
          · rw [List.getElem?_append_right (by omega)] at h1 h2
            have hj : j - sl.length = 0 := by
              have := (List.getElem?_eq_some_iff.mp h1).1
              simpa using this
            have hj' : j - sl'.length = 0 := by omega
            rw [hj] at h1
            rw [hj'] at h2
            simp at h1 h2
            subst h1 h2
            rw [inK_perm hpl, hind]
    · rintro σ H13 ⟨v1, v2, v3, v4, rfl, c13, hst13, xs, ds, sl, sl', hso13, hR, hN, hsl, hs50, hdep, hD, hsl', hin⟩
      walk_at "vs"
      refine v_list_l (SqL.of hso13) fun hd H14 nhd c14 hhd => ?_
      walk_at "vs"
      have fe : lws (fun _ => none) 1 sl = lws (fun _ => none) 1 sl' := lws_perm rfl (by omega) hin
      have fi : ∀ k v, lws (fun _ => none) 1 sl k = some v → ∃ i, v = .int i := lws_int (by intro k v h; cases h)
      have hl40 : sl.length ≤ 2000 := by omega
      refine ⟨hd, xs, ds, sl, rfl, SqL.of hhd, hR.on c14, hN, hl40, hs50, fun d H15 nd c15 hD15 => ?_⟩
      obtain ⟨ks, ls, e1, e2, e3, e4⟩ := hD15.eq ((hD.on c14 (by simp)).on c15 (by simp)) fe fi
      walk_at "vs"
      refine v_isi_dicT e1 (by simp [sixT]) ?_
      rw [show ("dict" == "dict") = true from rfl]
      walk_at "vs"
      refine v_ne_dT e1 e2 e3 e4 ?_
      walk_at "vs"
      refine v_ne_Lr (SqL.of (c15.at hhd)) (SqL.of ((c14.trans c15).at hso13)) (hR.on (c14.trans c15)) (hR.on (c14.trans c15)) (by omega) ?_
      walk_at "vs"
      refine v_newT (line9 (by show 2 ≤ 10000; decide)) fun t H16 nt c16 ht => ?_
      have d_hd : hd ≠ d := by rintro rfl; rw [nd] at hhd; cases hhd
      have d_du : du ≠ d := by rintro rfl; obtain ⟨kvs, e, _⟩ := (hD.on c14 (by simp)).ex; rw [nd] at e; cases e
      refine v_set_t (k := [.inr "box", .inr "other"]) (c16.at e1) ht (by
        have h1 := hD15.ex
        obtain ⟨kvs, e, _, _, l⟩ := h1
        rw [e1] at e
        cases e
        rw [sizeLine_eq]; omega) fun H17 c17 hd17 => ?_
      walk_at "vs"
      have cc : Chg [d] H15 H17 := c16.of0.trans c17
      have hhd17 := cc.keep (c15.at hhd) (by simpa using d_hd)
      refine ⟨hd, xs, ds, sl, rfl, SqL.of hhd17, ((hR.on (c14.trans c15)).on cc), hN, hl40, hs50, fun d2 H18 nd2 c18 hD18 => ?_⟩
      obtain ⟨ks2, ls2, e5, e6, e7, e8⟩ := hD18.eq ((((hD.on c14 (by simp)).on c15 (by simp)).on cc (by simpa using d_du)).on c18 (by simp)) fe fi
      walk_at "vs"
      refine v_eq_dT e5 e6 e7 e8 ?_
      exact q H18
end
theorem all_mk {P : Program} {w : World} {K : PySem.W.Frag} {h : Heap} {mg : Str → Option Value} {fa : Addr} (X : K.In h) (G : h.Ns mainGlobals mg) (hfa : mg "law" = some (.ref fa))
    {F0 : Addr} {oc0 : Value} {od0 : Option Addr} {sl0 : Array (Option Value)} {kV0 dc0 pm0 : Value} {an0 : Option Addr} {cd0 ct0 : Value}
    {F1 : Addr} {oc1 : Value} {od1 : Option Addr} {sl1 : Array (Option Value)} {kV1 dc1 pm1 : Value} {an1 : Option Addr} {cd1 ct1 : Value}
    {F2 : Addr} {oc2 : Value} {od2 : Option Addr} {sl2 : Array (Option Value)} {kV2 dc2 pm2 : Value} {an2 : Option Addr} {cd2 ct2 : Value}
    {F3 : Addr} {oc3 : Value} {od3 : Option Addr} {sl3 : Array (Option Value)} {kV3 dc3 pm3 : Value} {an3 : Option Addr} {cd3 ct3 : Value}
    {F4 : Addr} {oc4 : Value} {od4 : Option Addr} {sl4 : Array (Option Value)} {kV4 dc4 pm4 : Value} {an4 : Option Addr} {cd4 ct4 : Value}
    {F5 : Addr} {oc5 : Value} {od5 : Option Addr} {sl5 : Array (Option Value)} {kV5 dc5 pm5 : Value} {an5 : Option Addr} {cd5 ct5 : Value}
    (a0 : PySem.W.nsIn K mainGlobals "_law_cell_at" = some (some (.ref F0)))
    (l0 : K.lookup F0 = some ⟨oc0, od0, .func (PySem.W.fnOf "_law_cell_at" "_law_cell_at" (defArgs s__law_cell_at) (defBody s__law_cell_at) (defScope s__law_cell_at) .none kV0 dc0 pm0 an0 cd0 ct0), sl0⟩)
    (c0 : PySem.W.codeIn K cd0 "_law_cell_at" = true)
    (k0 : PySem.W.keepIn K (.ref F0) = true)
    (a1 : PySem.W.nsIn K mainGlobals "_law_state" = some (some (.ref F1)))
    (l1 : K.lookup F1 = some ⟨oc1, od1, .func (PySem.W.fnOf "_law_state" "_law_state" (defArgs s__law_state) (defBody s__law_state) (defScope s__law_state) .none kV1 dc1 pm1 an1 cd1 ct1), sl1⟩)
    (c1 : PySem.W.codeIn K cd1 "_law_state" = true)
    (k1 : PySem.W.keepIn K (.ref F1) = true)
    (a2 : PySem.W.nsIn K mainGlobals "_law_next" = some (some (.ref F2)))
    (l2 : K.lookup F2 = some ⟨oc2, od2, .func (PySem.W.fnOf "_law_next" "_law_next" (defArgs s__law_next) (defBody s__law_next) (defScope s__law_next) .none kV2 dc2 pm2 an2 cd2 ct2), sl2⟩)
    (c2 : PySem.W.codeIn K cd2 "_law_next" = true)
    (k2 : PySem.W.keepIn K (.ref F2) = true)
    (a3 : PySem.W.nsIn K mainGlobals "_law_names" = some (some (.ref F3)))
    (l3 : K.lookup F3 = some ⟨oc3, od3, .func (PySem.W.fnOf "_law_names" "_law_names" (defArgs s__law_names) (defBody s__law_names) (defScope s__law_names) .none kV3 dc3 pm3 an3 cd3 ct3), sl3⟩)
    (c3 : PySem.W.codeIn K cd3 "_law_names" = true)
    (k3 : PySem.W.keepIn K (.ref F3) = true)
    (a4 : PySem.W.nsIn K mainGlobals "last_writers" = some (some (.ref F4)))
    (l4 : K.lookup F4 = some ⟨oc4, od4, .func (PySem.W.fnOf "last_writers" "last_writers" (defArgs s_last_writers) (defBody s_last_writers) (defScope s_last_writers) .none kV4 dc4 pm4 an4 cd4 ct4), sl4⟩)
    (c4 : PySem.W.codeIn K cd4 "last_writers" = true)
    (k4 : PySem.W.keepIn K (.ref F4) = true)
    (a5 : PySem.W.nsIn K mainGlobals "law" = some (some (.ref F5)))
    (l5 : K.lookup F5 = some ⟨oc5, od5, .func (PySem.W.fnOf "law" "law" (defArgs s_law) (defBody s_law) (defScope s_law) .none kV5 dc5 pm5 an5 cd5 ct5), sl5⟩)
    (c5 : PySem.W.codeIn K cd5 "law" = true)
    (k5 : PySem.W.keepIn K (.ref F5) = true)
    (n_len : PySem.W.nsIn K mainGlobals "len" = some none)
    (n_range : PySem.W.nsIn K mainGlobals "range" = some none)
    (n_enumerate : PySem.W.nsIn K mainGlobals "enumerate" = some none)
    (n_tuple : PySem.W.nsIn K mainGlobals "tuple" = some none)
    (n_sorted : PySem.W.nsIn K mainGlobals "sorted" = some none)
    (n_list : PySem.W.nsIn K mainGlobals "list" = some none)
    (n_isinstance : PySem.W.nsIn K mainGlobals "isinstance" = some none)
    (n_dict : PySem.W.nsIn K mainGlobals "dict" = some none)
    : ∃ fd : FuncData, (∀ (s : Shared) (u : Value), BindsTo s fd ⟨[u], []⟩ [("_law_script", u)]) ∧ ∀ base : Heap, K.In base → base.Ns mainGlobals mg → FnOk P w K mg base (L2N.CX P w) 3 fa fd ["_law_script"] (sp_law K) := by
  have T : Txt K mg := { n_len := PySem.W.mg_none_of X G n_len, n_range := PySem.W.mg_none_of X G n_range, n_enumerate := PySem.W.mg_none_of X G n_enumerate, n_tuple := PySem.W.mg_none_of X G n_tuple, n_sorted := PySem.W.mg_none_of X G n_sorted, n_list := PySem.W.mg_none_of X G n_list, n_isinstance := PySem.W.mg_none_of X G n_isinstance, n_dict := PySem.W.mg_none_of X G n_dict }
  have D__law_cell_at : DefAt K mg "_law_cell_at" s__law_cell_at := ⟨F0, _, PySem.W.mg_of X G a0, fun_mk l0 c0 k0⟩
  have D__law_state : DefAt K mg "_law_state" s__law_state := ⟨F1, _, PySem.W.mg_of X G a1, fun_mk l1 c1 k1⟩
  have D__law_next : DefAt K mg "_law_next" s__law_next := ⟨F2, _, PySem.W.mg_of X G a2, fun_mk l2 c2 k2⟩
  have D__law_names : DefAt K mg "_law_names" s__law_names := ⟨F3, _, PySem.W.mg_of X G a3, fun_mk l3 c3 k3⟩
  have D_last_writers : DefAt K mg "last_writers" s_last_writers := ⟨F4, _, PySem.W.mg_of X G a4, fun_mk l4 c4 k4⟩
  have D_law : DefAt K mg "law" s_law := ⟨F5, _, PySem.W.mg_of X G a5, fun_mk l5 c5 k5⟩
  refine law_F D_law bw_law (fun base _ _ => ?_) hfa
  have O__law_cell_at : Own P w K mg base "_law_cell_at" 1 ["_law_script", "_law_k"] (sp_cell K) := ok__law_cell_at T D__law_cell_at
  have O__law_state : Own P w K mg base "_law_state" 1 ["_law_cell", "_law_k"] (sp_state) := ok__law_state T D__law_state
  have O__law_next : Own P w K mg base "_law_next" 1 ["_law_state_here", "_law_size"] (sp_next) := ok__law_next T D__law_next
  have O__law_names : Own P w K mg base "_law_names" 2 ["_law_state_here", "_law_amount"] (sp_names) := ok__law_names T D__law_names O__law_next
  have O_last_writers : Own P w K mg base "last_writers" 1 ["notes"] (sp_last K) := ok_last_writers T D_last_writers
  exact ok_law T O__law_state O__law_cell_at O__law_names O__law_next O_last_writers
theorem walk {l : PySem.W.OpenLaw} {q : Program} {loose : List Str} {XP : (Str → Option Value) → Heap → Prop} {YP : World → Heap → Prop} {d : DefRec} {K : Params → PySem.W.Frag} (hn : l.most = some 63) (hdf : d.params.defaults = [])
    (hY : ∀ (w : World) (h : Heap), YP w h → (K w.params).In h)
    (F : ∀ (w : World) (mg : Str → Option Value) (fa : Addr) (h : Heap), (K w.params).In h → h.Ns mainGlobals mg → mg d.name = some (.ref fa) →
      ∃ fd : FuncData, (∀ (s : Shared) (u : Value), BindsTo s fd ⟨[u], []⟩ [("_law_script", u)]) ∧ ∀ base : Heap, (K w.params).In base → base.Ns mainGlobals mg → FnOk l.prog w (K w.params) mg base (L2N.CX l.prog w) 3 fa fd ["_law_script"] (sp_law (K w.params))) :
    PySem.W.WalkO q loose XP YP l.row.toRowW d [] (fun f vs => PySem.call f vs) :=
  L2.walk_of (n := 63) (k := 3) (x := "_law_script") (CX := fun w => L2N.CX l.prog w) (sp := fun w => (sp_law (K w.params))) hn (by decide) hdf ⟨rfl, by decide, by decide⟩ hY F
    (fun w H a ns hl hO hS => sp_law_start hl hO hS) fun _ _ _ _ _ z => noneN z
end Cl
open PySem PySem.W PyProof.Rows
set_option maxRecDepth 100000 in
set_option maxHeartbeats 0 in
theorem PySem.Challenge.cw_retrace_k60_last_writers_holds : PySem.Challenge.rw_retrace_k60_last_writers.Holds := by
  w_on; o_law; k_head; (case hw => w_witness2)
  k_fill
  refine Cl.walk (l := PySem.Challenge.rw_retrace_k60_last_writers) rfl rfl (fun w h Y => PySem.W.kIn_of Y) ?F
  case F =>
    intro w mg fa h KX G hmg
    refine' Cl.all_mk KX G hmg ?a0 ?l0 ?c0 ?k0 ?a1 ?l1 ?c1 ?k1 ?a2 ?l2 ?c2 ?k2 ?a3 ?l3 ?c3 ?k3 ?a4 ?l4 ?c4 ?k4 ?a5 ?l5 ?c5 ?k5 ?n_len ?n_range ?n_enumerate ?n_tuple ?n_sorted ?n_list ?n_isinstance ?n_dict
    (case a0 => first | k_is | rfl)
    (case l0 => first | k_is | rfl)
    (case c0 => first | k_is | rfl)
    (case k0 => first | k_is | rfl)
    (case a1 => first | k_is | rfl)
    (case l1 => first | k_is | rfl)
    (case c1 => first | k_is | rfl)
    (case k1 => first | k_is | rfl)
    (case a2 => first | k_is | rfl)
    (case l2 => first | k_is | rfl)
    (case c2 => first | k_is | rfl)
    (case k2 => first | k_is | rfl)
    (case a3 => first | k_is | rfl)
    (case l3 => first | k_is | rfl)
    (case c3 => first | k_is | rfl)
    (case k3 => first | k_is | rfl)
    (case a4 => first | k_is | rfl)
    (case l4 => first | k_is | rfl)
    (case c4 => first | k_is | rfl)
    (case k4 => first | k_is | rfl)
    (case a5 => first | k_is | rfl)
    (case l5 => first | k_is | rfl)
    (case c5 => first | k_is | rfl)
    (case k5 => first | k_is | rfl)
    (case n_len => first | k_is | rfl)
    (case n_range => first | k_is | rfl)
    (case n_enumerate => first | k_is | rfl)
    (case n_tuple => first | k_is | rfl)
    (case n_sorted => first | k_is | rfl)
    (case n_list => first | k_is | rfl)
    (case n_isinstance => first | k_is | rfl)
    (case n_dict => first | k_is | rfl)
