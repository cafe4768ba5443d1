import PyProof.Rows.All
import Wide.All
import OpenK.AllK
import Wide.FinOn
import PyProof.ReprRoads
import HandS.ForMost
import HandS.ExcInit
import HandS.ExcIs
import KE.KExcMake
import HandS.Style
import HandS.Walk
import HandS.Codes
import PySem.Challenge.RW_roundties_k68_whole_errors_and_eight_new
set_option Elab.async false
set_option linter.all false
set_option maxRecDepth 100000
set_option maxHeartbeats 8000000
/-! Gd: defs that are known to run outside of any repr (Around.guards = some []), so that repr of data can be told. -/
namespace Gd
open PySem PySem.Spec PyProof.Rows L2

/-- a def's promise, where no repr is under way -/
structure FnG (P : Program) (w : World) (K : PySem.W.Frag) (mg : Str → Option Value) (base : Heap) (k : Nat) (f : Addr) (fd : FuncData) (ps : List Str) (sp : Sp) : Prop where
  len : ∀ vs H Q, sp vs H Q E0 → vs.length = ps.length
  run : ∀ (A : Around) (outer : List Env) (s : Shared) (H : Hp) (args : Args) (us : List Value) (vs : List V) (Q : VK),
    A.guards = some [] → Room k A → Env0 P w K mg base A outer s H → BindsTo s fd args (ps.zip us) → Vals vs us → sp vs H Q E0 →
    codeAny (model P w) A (.call (.ref f) args) (CR CX0 outer P w H s Q E0) s

section
variable {P : Program} {w : World} {K : PySem.W.Frag} {mg : Str → Option Value} {base : Heap}
theorem FnG.of {k : Nat} {f : Addr} {fd : FuncData} {ps : List Str} {sp : Sp} (F : FnOk P w K mg base CX0 k f fd ps sp) : FnG P w K mg base k f fd ps sp :=
  ⟨fun vs H Q h => F.len vs H Q E0 h, fun A outer s H args us vs Q _ r e b v h => F.run A outer s H args us vs Q E0 r e b v h⟩
theorem FnG.mono {j k : Nat} {f : Addr} {fd : FuncData} {ps : List Str} {sp : Sp} (F : FnG P w K mg base j f fd ps sp) (h : j ≤ k) : FnG P w K mg base k f fd ps sp :=
  ⟨F.len, fun A outer s H args us vs Q g r => F.run A outer s H args us vs Q g (r.mono h)⟩
/-- the body's rule -/
theorem FnG.ofBody {x qual : Str} {st : Stmt} {f : Addr} {fd : FuncData} {N ps : List Str} {k : Nat} {sp : Sp} (F : Fun K x qual st f fd)
    (S : FnScope N ps (defScope st)) (len : ∀ vs H Q, sp vs H Q E0 → vs.length = ps.length)
    (hb : ∀ (cdv : Value) (A : Around) (outer : List Env) (s : Shared) (H : Hp) (vs : List V) (Q : VK), A.guards = some [] →
      Room k (A.deeper (envOfC qual (defScope st) s.heap.objs.size f cdv)) → sp vs H Q E0 →
      ∃ t, PSs (cxOf CX0 P w K mg base N qual (defScope st) f cdv A outer s H E0).nox (defBody st) t ∧ t { nx := fun _ H' => Q .non H', rt := Q } (start N vs) H) :
    FnG P w K mg base (k + 1) f fd ps sp := by
  obtain ⟨oc, od, kV, doc, pm, an, cdv, ct, osl, rfl, lk, hcd⟩ := F.ex
  refine ⟨len, fun A outer s H args us vs Q hg hr e0 hbi r hsp => ?_⟩
  have KX : K.In s.heap := e0.mod.kin.keeps fun b o e => (e0.bs b o e).1
  have lim : s.heap.NoLimit := e0.mod.nolimit.keeps fun b o e => (e0.bs b o e).1
  refine codeAny_call_function hr.depth (KX _ _ lk) rfl S.co S.gen rfl (PySem.W.codeRec_of KX hcd) (hbi _ _ _ _ ?_)
  refine wpAny_newFunctionEnv_cells S.kind (fun y hy => ?_) fun env he s1 x => ?_
  · rcases S.par y.1 (List.of_mem_zip (show (y.1, y.2) ∈ ps.zip us from hy)).1 with q | q
    · exact .inl q
    · exact .inr ⟨q, PySem.W.cellsFrom_some _ _ _ (.inl q)⟩
  · subst he
    refine ⟨lim.keeps x.toInCall.keep, codeAny_func ?_⟩
    obtain ⟨t, ht, hq⟩ := hb cdv A outer s H vs Q hg (hr.deeper _) hsp
    have I := inv_start (CX := CX0) (E := E0) (N := N) S hr.hd e0 (len _ _ _ hsp) r x
    refine wpAny_mono (ht.nox.run [] s1 (start N vs) H _ I hq) (fun fl s' hs => ?_) fun e s' hs => hs
    cases fl with
    | ret u =>
      obtain ⟨v, σ', H', J, rv, q⟩ := hs
      exact ⟨v, H', J.os, J.bare, J.base, J.hok, rv, q⟩
    | next =>
      obtain ⟨σ', H', J, q⟩ := hs
      exact ⟨V.non, H', J.os, J.bare, J.base, J.hok, rfl, q⟩
    | brk =>
      obtain ⟨σ', H', J, q⟩ := hs
      exact False.elim q
    | cont =>
      obtain ⟨σ', H', J, q⟩ := hs
      exact False.elim q
end

section
variable {X : Cx} {k : Nat} {f : Addr} {fd : FuncData} {ps ks : List Str} {sp : Sp} {x : Str} {p pos : Pos} {e : Expr} {es : List Expr} {kws : List Keyword} {t tk : TA}
variable {g : List Value → List Value → List Value} {gV : List V → List V → List V}

theorem back {pins : List (Addr × Obj)} {σ : L2.St} {H : Hp} {s s' : Shared} {Q : VK} (I : Inv X pins σ H s) (r : Result)
    (hq : CR CX0 X.stack X.prog X.w H s Q E0 r s') : match r with
      | .ok (.ret u) => EP X pins σ Q u s'
      | _ => False := by
  cases r with
  | error e => exact hq
  | ok fl =>
    cases fl with
    | ret u => exact I.after hq
    | next => exact hq
    | brk => exact hq
    | cont => exact hq
/-- f(e, ..) -/
theorem pe_callG (F : FnG X.prog X.w X.K X.mg X.base k f fd ps sp) (hr : Room k X.A) (hgu : X.A.guards = some []) (hg : Gl X x) (hm : X.mg x = some (.ref f)) (hk : PySem.W.keepIn X.K (.ref f) = true)
    (hb : Binds X.K fd ps []) (ha : PA X (e :: es) t) (hdb : (x == ("__debug__" : Str)) = false := by decide)
    (he : starEach (e :: es) X.env = (false, eval e X.env) :: starEach es X.env := by rfl) (hpl : (backTo pos (starEach es X.env)).any (·.1) = false := by rfl) :
    PE X (.Call (.Name x p) (e :: es) [] pos) (tCall sp [] E0 t) := by
  refine ⟨fun pins s σ H Q I h => wpAny_Call_Name_kw (ld_glob I hg hm ?_ hdb)⟩
  refine PySem.W.callWith_K (h₀ := X.base) I.ok.mod.kin hk (thn (ha.run pos pins s σ H _ I h) fun us s1 ⟨vs, H1, I1, r, q⟩ => ⟨I1.kIn, ?_⟩) he hpl
  have q : sp vs H1 Q E0 := by
    have q' : sp (vs ++ []) H1 Q E0 := q
    rwa [List.append_nil] at q'
  have hl : (us ++ []).length = ps.length := by rw [List.append_nil, ← r.length]; exact F.len _ _ _ q
  have bd := hb s1 us I1.kIn hl
  rw [List.append_nil] at bd
  refine wpAny_call (codeAny_mono (F.run X.A X.stack s1 H1 ⟨us, []⟩ us vs Q hgu hr I1.env0 bd r q) fun r s' hq => ?_)
  have z := back (σ := σ) I1 r hq
  cases r with
  | error _ => exact z.elim
  | ok fl => cases fl <;> first | exact z | exact z.elim
/-- f(e, .., k = v, ..) -/
theorem pe_callKG (F : FnG X.prog X.w X.K X.mg X.base k f fd ps sp) (hr : Room k X.A) (hgu : X.A.guards = some []) (hb : KBinds X.K fd ps ks g gV) (hg : Gl X x) (hm : X.mg x = some (.ref f))
    (hk : PySem.W.keepIn X.K (.ref f) = true) (ha : PA X (e :: es) t) (hkw : PK X kws tk) (hall : (backToKw pos (keywordEach kws X.env)).all (·.1.isSome) = true := by rfl)
    (hks : (backToKw pos (keywordEach kws X.env)).filterMap (·.1) = ks := by rfl) (hdb : (x == ("__debug__" : Str)) = false := by decide)
    (he : starEach (e :: es) X.env = (false, eval e X.env) :: starEach es X.env := by rfl)
    (hpl : ((backTo pos (starEach (e :: es) X.env)).any (·.1) || (backToKw pos (keywordEach kws X.env)).any (·.1.isNone)) = false := by rfl) :
    PE X (.Call (.Name x p) (e :: es) kws pos) (tCallK sp gV E0 t tk) := by
  refine ⟨fun pins s σ H Q I h => wpAny_Call_Name_kw (ld_glob I hg hm ?_ hdb)⟩
  refine PySem.W.callWith_KW (h₀ := X.base) I.ok.mod.kin hk hall (thn (ha.run pos pins s σ H _ I h) fun us s1 ⟨vs, H1, I1, r, q⟩ => ?_) hpl he
  refine thn (hkw.run pos pins s1 σ H1 _ I1 q) fun ws s2 ⟨zs, H2, I2, rz, q2⟩ => ⟨I2.kIn, ?_⟩
  rw [hks]
  have r2 := hb.rel r rz
  have hl : (g us ws).length = ps.length := by rw [← r2.length]; exact F.len _ _ _ q2
  refine wpAny_call (codeAny_mono (F.run X.A X.stack s2 H2 ⟨us, ks.zip ws⟩ (g us ws) (gV vs zs) Q hgu hr I2.env0 (hb.to s2 us ws I2.kIn hl) r2 q2) fun r s' hq => ?_)
  have z := back (σ := σ) I2 r hq
  cases r with
  | error _ => exact z.elim
  | ok fl => cases fl <;> first | exact z | exact z.elim
end

/-! ### data: none, bools, ints, texts, lists, tuples, dicts with int and text keys, at any depth -/
def keyD : Key → PyData
  | .inl i => .int i
  | .inr x => .str x
mutual
inductive Dx (K : PySem.W.Frag) (H : Hp) : V → PyData → Prop
  | non : Dx K H .non .none
  | bl (b : Bool) : Dx K H (.bl b) (.bool b)
  | int (i : Int) : Dx K H (.int i) (.int i)
  | str (x : Str) : Dx K H (.str x) (.str x)
  | lst {a : Addr} {xs : List V} {ds : List PyData} : SqL K H a xs → DxAll K H xs ds → Dx K H (.ref a) (.list ds)
  | tup {a : Addr} {xs : List V} {ds : List PyData} : SqT K H a xs → DxAll K H xs ds → Dx K H (.ref a) (.tuple ds)
  | dct {a : Addr} {kvs : List (Key × V)} {ps : List (PyData × PyData)} : H a = some (.dK kvs) → DxKv K H kvs ps → Dx K H (.ref a) (.dict ps)
inductive DxAll (K : PySem.W.Frag) (H : Hp) : List V → List PyData → Prop
  | nil : DxAll K H [] []
  | cons {v : V} {vs : List V} {d : PyData} {ds : List PyData} : Dx K H v d → DxAll K H vs ds → DxAll K H (v :: vs) (d :: ds)
inductive DxKv (K : PySem.W.Frag) (H : Hp) : List (Key × V) → List (PyData × PyData) → Prop
  | nil : DxKv K H [] []
  | cons {k : Key} {v : V} {d : PyData} {r : List (Key × V)} {ps : List (PyData × PyData)} : Dx K H v d → DxKv K H r ps → DxKv K H ((k, v) :: r) ((keyD k, d) :: ps)
end
/-! no list within -/
mutual
def noL : PyData → Bool
  | .none => true
  | .bool _ => true
  | .int _ => true
  | .str _ => true
  | .list _ => false
  | .tuple ds => noLs ds
  | .dict ps => noLk ps
def noLs : List PyData → Bool
  | [] => true
  | d :: ds => noL d && noLs ds
def noLk : List (PyData × PyData) → Bool
  | [] => true
  | (_, d) :: ps => noL d && noLk ps
end
section
variable {X : Cx} {pins : List (Addr × Obj)} {σ : L2.St} {H : Hp} {s : Shared}
theorem keys_read : ∀ {kvs : List (Key × V)} {ps : List (PyData × PyData)} {vs : List (Key × Value)} {es : List DictEntry}, DxKv X.K H kvs ps → KV kvs vs → Pairs (mixKind X.prog X.w) es vs →
    ReadsAll s.heap (es.map (·.key)) (ps.map (·.1)) [] ∧ Vals (kvs.map (·.2)) (es.map (·.val))
  | [], _, _, es, h1, h2, h3 => by
    cases h1
    cases h2
    cases h3
    exact ⟨.nil, .nil⟩
  | (k, v) :: r, _, _, es, h1, h2, h3 => by
    cases h1 with
    | cons hv h1 =>
      cases h2 with
      | @cons _ b _ _ q h2 =>
        cases h3 with
        | @cons e kv es kvs hk hval h3 =>
          obtain ⟨a1, a2⟩ := keys_read h1 h2 h3
          obtain ⟨q1, q2⟩ := q
          have hk' : keyIs k e.key = true := by
            have q3 : k = b.1 := q1
            rw [← mixKind_is X.prog X.w, q3]
            exact hk
          refine ⟨?_, .cons (by show L2.RelV v e.val; rw [hval]; exact q2) a2⟩
          rcases keyIs_shape hk' with ⟨i, t, rfl, he⟩ | ⟨y, t, rfl, he⟩
          · exact ReadsAll.cons (as := []) (by show Reads s.heap e.key (.int i) []; rw [he]; exact Reads.int i t) a1
          · exact ReadsAll.cons (as := []) (by show Reads s.heap e.key (.str y) []; rw [he]; exact Reads.str y t) a1
mutual
theorem Dx.reads (I : Inv X pins σ H s) : ∀ (d : PyData) (v : V) (u : Value), Dx X.K H v d → RelV v u → ∃ as, Reads s.heap u d as ∧ (noL d = true → sysModules ∉ as)
  | .none, _, _, h, r => by
    cases h
    cases r
    exact ⟨_, Reads.none, fun _ z => nomatch z⟩
  | .bool b, _, _, h, r => by
    cases h
    cases r
    exact ⟨_, Reads.bool b, fun _ z => nomatch z⟩
  | .int i, _, _, h, r => by
    cases h
    obtain ⟨t, rfl⟩ := r
    exact ⟨_, Reads.int i t, fun _ z => nomatch z⟩
  | .str x, _, _, h, r => by
    cases h
    obtain ⟨t, rfl⟩ := r
    exact ⟨_, Reads.str x t, fun _ z => nomatch z⟩
  | .list ds, _, _, h, r => by
    cases h with
    | lst hs ha =>
      cases r
      obtain ⟨its, rv, ⟨o, n, g1, g2, _, g3⟩, _⟩ := I.list hs
      obtain ⟨as, hr, hn⟩ := Dx.readsAll I ds _ its ha rv
      exact ⟨_, Reads.list g1 g2 g3 hr, fun c => by rw [noL] at c; cases c⟩
  | .tuple ds, _, _, h, r => by
    cases h with
    | tup hs ha =>
      cases r
      obtain ⟨its, rv, ⟨o, g1, g2, n, g3⟩, _⟩ := I.tuple hs
      obtain ⟨as, hr, hn⟩ := Dx.readsAll I ds _ its ha rv
      exact ⟨_, Reads.tuple g1 g2 g3 hr, fun c => hn (by rw [noL] at c; exact c)⟩
  | .dict ps, _, _, h, r => by
    cases h with
    | @dct a kvs _ he hkv =>
      cases r
      obtain ⟨_, ho, vs, rel, o, es, ep, g1, g2, g3, _, g5, _⟩ := (show ObjOk X.prog X.w H s.heap a (.dK kvs) from I.hok a _ he)
      obtain ⟨a1, a2⟩ := keys_read (s := s) hkv rel g5
      obtain ⟨as, hr, hn⟩ := Dx.readsKv I ps kvs _ hkv a2
      have ho' : sysModules ≠ a := fun z => by
        rw [← z] at ho
        exact absurd ho (by decide)
      refine ⟨_, Reads.dict g1 g2.1 g3 a1 hr, fun c z => ?_⟩
      rw [noL] at c
      exact (List.mem_cons.mp z).elim ho' (hn c)
theorem Dx.readsAll (I : Inv X pins σ H s) : ∀ (ds : List PyData) (vs : List V) (us : List Value), DxAll X.K H vs ds → Vals vs us → ∃ as, ReadsAll s.heap us ds as ∧ (noLs ds = true → sysModules ∉ as)
  | [], _, _, h, r => by
    cases h
    cases r
    exact ⟨_, ReadsAll.nil, fun _ z => nomatch z⟩
  | d :: ds, _, _, h, r => by
    cases h with
    | cons h1 h2 =>
      cases r with
      | cons r1 r2 =>
        obtain ⟨as, q1, n1⟩ := Dx.reads I d _ _ h1 r1
        obtain ⟨bs, q2, n2⟩ := Dx.readsAll I ds _ _ h2 r2
        refine ⟨_, ReadsAll.cons q1 q2, fun c z => ?_⟩
        obtain ⟨c1, c2⟩ := Bool.and_eq_true_iff.mp (by rw [noLs] at c; exact c)
        exact (List.mem_append.mp z).elim (n1 c1) (n2 c2)
theorem Dx.readsKv (I : Inv X pins σ H s) : ∀ (ps : List (PyData × PyData)) (kvs : List (Key × V)) (us : List Value), DxKv X.K H kvs ps → Vals (kvs.map (·.2)) us → ∃ as, ReadsAll s.heap us (ps.map (·.2)) as ∧ (noLk ps = true → sysModules ∉ as)
  | [], _, _, h, r => by
    cases h
    cases r
    exact ⟨_, ReadsAll.nil, fun _ z => nomatch z⟩
  | (kd, d) :: ps, _, _, h, r => by
    cases h with
    | cons h1 h2 =>
      cases r with
      | cons r1 r2 =>
        obtain ⟨as, q1, n1⟩ := Dx.reads I d _ _ h1 r1
        obtain ⟨bs, q2, n2⟩ := Dx.readsKv I ps _ _ h2 r2
        refine ⟨_, ReadsAll.cons q1 q2, fun c z => ?_⟩
        obtain ⟨c1, c2⟩ := Bool.and_eq_true_iff.mp (by rw [noLk] at c; exact c)
        exact (List.mem_append.mp z).elim (n1 c1) (n2 c2)
end

/-- repr(x), x data d -/
def rRepr (K : PySem.W.Frag) : List V → Hp → VK → Prop := fun xs H Q => ∃ (x : V) (d : PyData), xs = [x] ∧ Dx K H x d ∧ d.showable = true ∧ d.depth ≤ 60 ∧ d.shown.length ≤ sizeLine ∧ (d.hasDict = true → noL d = true) ∧ Q (.str d.shown) H
theorem call_repr (hgu : X.A.guards = some []) (hu : X.A.units + 64 < cLine) : CallR X (.builtin "repr") (rRepr X.K) := by
  intro pins s σ H xs us Q I r h
  obtain ⟨x, d, rfl, hd, hs, hdp, hl, hy, q⟩ := h
  cases r with
  | @cons _ u _ _ rx rr =>
    cases rr
    obtain ⟨as, rd, hn⟩ := Dx.reads I d x u hd rx
    have fin : ∀ (h' : Heap) (tu : Tok) (tk : Nat), (∀ b o, s.heap.get? b = some o → h'.get? b = some o) → EP X pins σ Q (.str d.shown tu) { s with heap := h', toks := tk } :=
      fun h' tu tk hk => ⟨.str d.shown, H, I.kept hk, ⟨_, rfl⟩, q⟩
    have keep : ∀ b o, s.heap.get? b = some o → s.heap.get? b = some o := fun _ _ e => e
    cases rd with
    | none => exact P.repr_of_none (fin s.heap _ _ keep)
    | bool b => exact P.repr_of_bool (by have f := fin s.heap s.toks (s.toks + 1) keep; rw [PyData.shown_bool] at f; exact f)
    | int i t =>
      rw [PyData.shown_int] at fin
      exact P.repr_of_int (by simpa [PyData.showable] using hs) (fin s.heap _ _ keep)
    | str z t =>
      rw [PyData.shown_str] at fin hl
      exact P.repr_of_str (fin s.heap _ _ keep) hl
    | list h1 h2 h3 h4 => exact repr_of_reads' (Reads.list h1 h2 h3 h4) hs (fun z => hn (hy z)) hgu (by omega) (fun _ _ e => e) fin hl
    | tuple h1 h2 h3 h4 => exact repr_of_reads' (Reads.tuple h1 h2 h3 h4) hs (fun z => hn (hy z)) hgu (by omega) (fun _ _ e => e) fin hl
    | dict h1 h2 h3 h4 h5 => exact repr_of_reads' (Reads.dict h1 h2 h3 h4 h5) hs (fun z => hn (hy z)) hgu (by omega) (fun _ _ e => e) fin hl
end
end Gd
/-! Dt: written data: displays of tuples, lists and constants give data. -/
namespace Dt
open PySem PySem.Spec PyProof.Rows L2 Gd
theorem seqT {K : PySem.W.Frag} {H H' : Hp} {a : Addr} {xs : List V} (e : L2.Same H H') (h : SqT K H a xs) : SqT K H' a xs := by
  rcases h with (h | ⟨o, h⟩) | h
  · exact .inl (.inl (e _ _ h))
  · exact .inl (.inr ⟨o, e _ _ h⟩)
  · exact .inr h
mutual
theorem dx_same {K : PySem.W.Frag} {H H' : Hp} (e : L2.Same H H') : ∀ (d : PyData) (v : V), Dx K H v d → Dx K H' v d
  | .none, _, h => by
    cases h
    exact .non
  | .bool b, _, h => by
    cases h
    exact .bl b
  | .int i, _, h => by
    cases h
    exact .int i
  | .str x, _, h => by
    cases h
    exact .str x
  | .list ds, _, h => by
    cases h with
    | lst h1 h2 => exact .lst (e.seq h1) (dxs_same e ds _ h2)
  | .tuple ds, _, h => by
    cases h with
    | tup h1 h2 => exact .tup (seqT e h1) (dxs_same e ds _ h2)
  | .dict ps, _, h => by
    cases h with
    | dct h1 h2 => exact .dct (e _ _ h1) (dkv_same e ps _ h2)
theorem dxs_same {K : PySem.W.Frag} {H H' : Hp} (e : L2.Same H H') : ∀ (ds : List PyData) (vs : List V), DxAll K H vs ds → DxAll K H' vs ds
  | [], _, h => by
    cases h
    exact .nil
  | d :: ds, _, h => by
    cases h with
    | cons h1 h2 => exact .cons (dx_same e d _ h1) (dxs_same e ds _ h2)
theorem dkv_same {K : PySem.W.Frag} {H H' : Hp} (e : L2.Same H H') : ∀ (ps : List (PyData × PyData)) (kvs : List (Key × V)), DxKv K H kvs ps → DxKv K H' kvs ps
  | [], _, h => by
    cases h
    exact .nil
  | (kd, d) :: ps, _, h => by
    cases h with
    | cons h1 h2 => exact .cons (dx_same e d _ h1) (dkv_same e ps _ h2)
end
theorem dxs_app {K : PySem.W.Frag} {H : Hp} : ∀ {xs ys : List V} {ds es : List PyData}, DxAll K H xs ds → DxAll K H ys es → DxAll K H (xs ++ ys) (ds ++ es)
  | _, _, _, _, .nil, s => s
  | _, _, _, _, .cons r t, s => .cons r (dxs_app t s)
theorem dxs_get {K : PySem.W.Frag} {H : Hp} : ∀ {xs : List V} {ds : List PyData}, DxAll K H xs ds → ∀ v ∈ xs, ∃ d ∈ ds, Dx K H v d
  | _, _, .cons (d := d) r t, v, hv => by
    rcases List.mem_cons.mp hv with rfl | hv
    · exact ⟨d, List.mem_cons_self, r⟩
    · obtain ⟨d', h1, h2⟩ := dxs_get t v hv
      exact ⟨d', List.mem_cons_of_mem _ h1, h2⟩
theorem dxs_len {K : PySem.W.Frag} {H : Hp} : ∀ {xs : List V} {ds : List PyData}, DxAll K H xs ds → xs.length = ds.length
  | _, _, .nil => rfl
  | _, _, .cons _ t => by rw [List.length_cons, List.length_cons, dxs_len t]
theorem new_same {H : Hp} {a : Addr} {o : HO} (h : H a = none) : L2.Same H (upd H a o) := fun b u e => by
  rw [upd_ne (ne_of_none e h)]
  exact e

/-- what is new in H', seen from H -/
def New (H H' : Hp) : Hp := fun b => if H b = none then H' b else none
theorem New.at {H H' : Hp} {b : Addr} (h : H b = none) : New H H' b = H' b := if_pos h
theorem New.mem {H H' : Hp} {b : Addr} {o : HO} (h : New H H' b = some o) : H b = none ∧ H' b = some o := by
  unfold New at h
  by_cases e : H b = none
  · rw [if_pos e] at h
    exact ⟨e, h⟩
  · rw [if_neg e] at h
    cases h
theorem New.sub (H H' : Hp) : L2.Same (New H H') H' := fun b o h => (New.mem h).2
theorem New.left {H H1 H2 : Hp} (s : L2.Same H1 H2) : L2.Same (New H H1) (New H H2) := fun b o h => by
  obtain ⟨h1, h2⟩ := New.mem h
  rw [New.at h1]
  exact s _ _ h2
theorem New.right {H H1 H2 : Hp} (s : L2.Same H H1) : L2.Same (New H1 H2) (New H H2) := fun b o h => by
  obtain ⟨h1, h2⟩ := New.mem h
  rw [New.at (s.free h1)]
  exact h2
def tDx (K : PySem.W.Frag) (d : PyData) : TE := fun _ H Q => ∀ v H', L2.Same H H' → Dx K (New H H') v d → Q v H'
def tDxs (K : PySem.W.Frag) (ds : List PyData) : TA := fun _ H Q => ∀ vs H', L2.Same H H' → DxAll K (New H H') vs ds → Q vs H'
section
variable {X : Cx} {e : Expr} {es : List Expr} {t t' : TE} {ta ta' : TA} {d : PyData} {ds : List PyData} {pos p1 : Pos}
theorem pe_imp (h : PE X e t) (i : ∀ σ H Q, t' σ H Q → t σ H Q) : PE X e t' := ⟨fun pins s σ H Q I q => h.run pins s σ H Q I (i σ H Q q)⟩
theorem pa_imp (h : PA X es ta) (i : ∀ σ H Q, ta' σ H Q → ta σ H Q) : PA X es ta' := ⟨fun pos pins s σ H Q I q => h.run pos pins s σ H Q I (i σ H Q q)⟩
theorem dx_of (h : PE X e (tC v)) (r : ∀ H, Dx X.K H v d) : PE X e (tDx X.K d) := pe_imp h fun _ H _ q => q v H (L2.Same.refl H) (r _)
theorem dx_int {i : Int} {j : Nat} : PE X (.Constant (.int i) j pos) (tDx X.K (.int i)) := dx_of pe_int fun _ => .int i
theorem dx_str {i : Str} {j : Nat} : PE X (.Constant (.str i) j pos) (tDx X.K (.str i)) := dx_of pe_str fun _ => .str i
theorem dx_bl {i : Bool} {j : Nat} : PE X (.Constant (.bool i) j pos) (tDx X.K (.bool i)) := dx_of pe_bl fun _ => .bl i
theorem dx_non {j : Nat} : PE X (.Constant .none j pos) (tDx X.K .none) := dx_of pe_non fun _ => .non
theorem dx_neg {i : Int} {j : Nat} : PE X (.UnaryOp .USub (.Constant (.int i) j p1) pos) (tDx X.K (.int (-i))) :=
  pe_imp (pe_un un_neg pe_int) fun _ H _ q => ⟨i, rfl, q _ H (L2.Same.refl H) (.int _)⟩
theorem dx_pow {i k : Int} {j j2 : Nat} {p2 : Pos} (h : CPow i k) : PE X (.BinOp (.Constant (.int i) j p1) .Pow (.Constant (.int k) j2 p2) pos) (tDx X.K (.int (i ^ k.toNat))) :=
  pe_imp (pe_op op_pow pe_int pe_int) fun _ H _ q => ⟨_, _, rfl, rfl, h, q _ H (L2.Same.refl H) (.int _)⟩
theorem dxs_nil : PA X [] (tDxs X.K []) := pa_imp pa_nil fun _ H _ q => q [] H (L2.Same.refl H) .nil
theorem dxs_cons (h : PE X e (tDx X.K d)) (hr : PA X es (tDxs X.K ds)) (hs : starEach (e :: es) X.env = (false, eval e X.env) :: starEach es X.env := by rfl) : PA X (e :: es) (tDxs X.K (d :: ds)) :=
  pa_imp (pa_cons h hr hs) fun _ H _ q v H1 s1 h1 vs H2 s2 h2 => q (v :: vs) H2 (s1.trans s2) (.cons (dx_same (New.left s2) _ _ h1) (dxs_same (New.right s1) _ _ h2))
theorem dx_tup {x1 : Nat} (h : PA X es (tDxs X.K ds)) (hl : ds.length ≤ sizeLine := by decide) : PE X (.Tuple es x1 pos) (tDx X.K (.tuple ds)) :=
  pe_imp (pe_tup h) fun _ H Q q vs H1 s1 h1 => ⟨by rw [dxs_len h1]; exact hl, fun p hp => q (.ref p) _ (s1.trans (new_same hp)) (.tup (.inl (.inl (by rw [New.at (s1.free hp)]; exact upd_same))) (dxs_same (New.left (new_same hp)) _ _ h1))⟩
theorem dx_lst (h : PA X es (tDxs X.K ds)) (hl : ds.length ≤ sizeLine := by decide) : PE X (.List es pos) (tDx X.K (.list ds)) :=
  pe_imp (pe_lst h) fun _ H Q q vs H1 s1 h1 => ⟨by rw [dxs_len h1]; exact hl, fun p hp => q (.ref p) _ (s1.trans (new_same hp)) (.lst (.inl (.inl (by rw [New.at (s1.free hp)]; exact upd_same))) (dxs_same (New.left (new_same hp)) _ _ h1))⟩
/-- {'k': c} -/
theorem dx_one {x : Str} {c : Int} {j j2 : Nat} {p2 : Pos} : PE X (.Dict [some (.Constant (.str x) j p1)] [.Constant (.int c) j2 p2] pos) (tDx X.K (.dict [(.str x, .int c)])) :=
  pe_imp (pe_disp (pps_cons pe_str pe_int pps_nil) (by rfl) (by rfl) (fun z => by cases z) (by show 1 ≤ 15; decide)) fun _ H Q q p hp =>
    ⟨upd_same, [(.inr x, .int c)], rfl, (by show 1 ≤ 15; decide), by
      rw [show upd (upd H p (.dK [])) p (.dK (mergeK [] [(.inr x, .int c)])) = upd H p (.dK [(.inr x, .int c)]) from upd_upd]
      exact q (.ref p) _ (new_same hp) (.dct (by rw [New.at hp]; exact upd_same) (.cons (.int c) .nil))⟩
/-- 'x' * n -/
theorem op_mulS : OpR X (binaryOp .Mult) (fun x y H Q => ∃ z i, x = .str z ∧ y = .int i ∧ MulOk z i ∧ Q (.str (Txt.mul z i)) H) := by
  intro pins s σ H x y v u Q I rx ry h
  obtain ⟨z, i, rfl, rfl, hm, q⟩ := h
  obtain ⟨t, rfl⟩ := rx
  obtain ⟨t', rfl⟩ := ry
  exact SB.mul hm fun t' k => ⟨.str _, H, I.tok _, ⟨_, rfl⟩, q⟩
theorem dx_mulS {x : Str} {i : Int} {j j2 : Nat} {p2 : Pos} (h : MulOk x i) : PE X (.BinOp (.Constant (.str x) j p1) .Mult (.Constant (.int i) j2 p2) pos) (tDx X.K (.str (Txt.mul x i))) :=
  pe_imp (pe_op op_mulS pe_str pe_int) fun _ H _ q => ⟨_, _, rfl, rfl, h, q _ H (L2.Same.refl H) (.str _)⟩
/-- a list that may be changed, of data -/
def tLs (K : PySem.W.Frag) (ds : List PyData) : TE := fun _ H Q => ∀ l xs H', L2.Same H H' → H' l = some (.lst xs) → H l = none → DxAll K (New H H') xs ds → Q (.ref l) H'
theorem ls_lst (h : PA X es (tDxs X.K ds)) (hl : ds.length ≤ sizeLine := by decide) : PE X (.List es pos) (tLs X.K ds) :=
  pe_imp (pe_lst h) fun _ H Q q vs H1 s1 h1 => ⟨by rw [dxs_len h1]; exact hl, fun p hp => q p vs _ (s1.trans (new_same hp)) upd_same (s1.free hp) (dxs_same (New.left (new_same hp)) _ _ h1)⟩
end
end Dt
/-! Ex: exceptions of own classes as values: made (by place, by name), their field read, asked for their class. -/
namespace Ex
open PySem PySem.W PyProof.Rows

/-! ### the making, with keywords; the tail of the class's mro may be longer than that of the maker's owner -/
section
variable {M : Model} {A : Around} {E : Value → Shared → Prop} {h : Heap} {g : Array GenState} {d : Drawn} {t : Nat} {os : OsState}
variable {nm q : Str} {C N : Addr} {bs bm bmB : List Value} {hdct : Bool} {sn : List Str} {sub : List Value} {ab : Bool} {col : Option Bool} {dd : Option Addr} {k0 k1 k2 k3 k5 : Option Value} {B newId initId : String}
theorem check_newX (F : ExcBaseFacts B newId initId bmB) (hB : bm.contains (.type B) = true) {rest : List Value} {kw : List (Str × Value)} {Q : Unit → Shared → Prop}
    (hC : h.get? C = some (excClassObj nm q C N bs bm hdct sn sub ab col dd k0 k1 k2 k3 k5 newId)) (hq : Q () ⟨h, g, d, t, os⟩) :
    wpAny M A (checkBuiltinCall newId ⟨.ref C :: rest, kw⟩) Q E ⟨h, g, d, t, os⟩ := by
  have hc : (Value.ref C :: bm).contains (.type B) = true := by rw [List.contains_cons, hB, Bool.or_true]
  have hs := F.noStar
  simp only [checkBuiltinCall, F.newKind, F.newSplit, F.newRow]
  repeat (first
    | refine wpAny_loadPart_at hC ?_
    | (refine wpAny_isSubtype_exc hC ?_; rw [hc])
    | refine wpAny_staticBase_exc hC ?_
    | refine wpAny_madeBy_exc hC ?_
    | simp only [bne_self_eq_false, Bool.false_eq_true, if_false]
    | wp_step)
  exact hq
end
section
variable {prog : Program} {w : World} {A : Around} {E : Value → Shared → Prop} {R : Result → Shared → Prop} {h : Heap} {g : Array GenState} {d : Drawn} {t : Nat} {os : OsState}
variable {nm q : Str} {C N : Addr} {bs bm bmB : List Value} {hdct : Bool} {sn : List Str} {sub : List Value} {ab : Bool} {col : Option Bool} {dd : Option Addr} {k0 k1 k2 k3 k5 : Option Value} {B newId initId : String}
/-- what the tail of the mro must have -/
structure TailOk (B : String) (bm : List Value) : Prop where
  hB : bm.contains (.type B) = true
  hA : bm.contains (.type "AttributeError") = false
  hN : bm.contains (.type "NameError") = false
abbrev eo (C t : Addr) : Obj := excObj C t none .none
theorem newX (F : ExcBaseFacts B newId initId bmB) (T : TailOk B bm) {rest : List Value} {kw : List (Str × Value)}
    (hC : h.get? C = some (excClassObj nm q C N bs bm hdct sn sub ab col dd k0 k1 k2 k3 k5 newId)) (hr : rest.length ≤ sizeLine)
    (hq : R (.ok (.ret (.ref (h.objs.size + 1)))) ⟨(h.push (excTup rest)).push (eo C h.objs.size), g, d, t, os⟩) :
    codeAny (model prog w) A (.builtin newId ⟨.ref C :: rest, kw⟩) R ⟨h, g, d, t, os⟩ := by
  have he := F.ends
  have c1 : (Value.ref C :: bm).contains (.type B) = true := by rw [List.contains_cons, T.hB, Bool.or_true]
  have c2 : (Value.ref C :: bm).contains (.type "AttributeError") = false := by rw [List.contains_cons, T.hA]; rfl
  have c3 : (Value.ref C :: bm).contains (.type "NameError") = false := by rw [List.contains_cons, T.hN]; rfl
  refine codeAny_builtinAt F.entry ?_
  unfold Builtin.«BaseException.__new__»
  refine PySem.wpAt_bind ?_
  show PySem.wpAt _ _ _ (stack >>= _) _ _ _
  refine PySem.wpAt_bind (PySem.wpAt_stack fun p below => PySem.wpAt_of_wpAny ?_)
  wp_walk
  refine PySem.wpAt_of_wpAny ?_
  rw [F.owner]
  repeat (first
    | with_reducible refine wpAny_madeHere_exc F.canon hC ?_
    | with_reducible refine wpAny_loadPart_at hC ?_
    | (with_reducible refine wpAny_isSubtype_exc hC ?_; first | rw [c1] | rw [c2] | rw [c3])
    | wp_step)
  show R _ _
  rw [Heap.size_push]
  exact hq
theorem type_callX (F : ExcBaseFacts B newId initId bmB) (T : TailOk B bm) {rest : List Value} {kw : List (Str × Value)} {fI : Addr} {Q : Fin → Shared → Prop}
    (hC : h.get? C = some (excClassObj nm q C N bs bm hdct sn sub ab col dd k0 k1 k2 k3 k5 newId)) (hr : rest.length ≤ sizeLine)
    (hi : Looks (model prog w) h (typeLookup (.ref C) "__init__") (some (.ref fI))) (hb : ∀ self, Looks (model prog w) h (bindSpecial (.ref fI) self) (.ref fI, [self]))
    (hq : codeAny (model prog w) A (.call (.ref fI) ⟨.ref (h.objs.size + 1) :: rest, kw⟩)
      (fun r s' => match r with | .ok (.ret v) => v = .none ∧ Q (.done (.ret (.ref (h.objs.size + 1)))) s' | .ok _ => False | .error e => E e s')
      ⟨(h.push (excTup rest)).push (eo C h.objs.size), g, d, t, os⟩) :
    wpAny (model prog w) A (Builtin.«type.__call__» ⟨.ref C :: rest, kw⟩) Q E ⟨h, g, d, t, os⟩ := by
  repeat (first | with_reducible refine wpAny_loadPart_at hC ?_ | with_reducible refine wpAny_madeBy_exc hC ?_ | wp_step)
  refine codeAny_call_builtin_code (Code.quiet_builtin _ F.quiet) (check_newX F T.hB hC ?_)
  refine newX F T hC hr ?_
  show wpAny _ _ _ _ _ _
  have k : ∀ b o, h.get? b = some o → ((h.push (excTup rest)).push (eo C h.objs.size)).get? b = some o := fun b o e => Heap.get?_push_of_some _ (Heap.get?_push_of_some _ e)
  have hC1 := k _ _ hC
  have hg : ((h.push (excTup rest)).push (eo C h.objs.size)).get? (h.objs.size + 1) = some (eo C h.objs.size) := by heap_get
  have cc : (Value.ref C :: bm).contains (.ref C) = true := by simp
  have i1 := hi.keeps k
  have b1 := (hb (.ref (h.objs.size + 1))).keeps k
  unfold isInstance
  repeat (first | with_reducible refine wpAny_loadPart_at hg ?_ | (with_reducible refine wpAny_isSubtype_exc hC1 ?_; rw [cc]) | wp_step)
  show wpAny _ _ (typeLookup (.ref C) _) _ _ _
  refine i1.at (wpAny_holding (wpAny_bind (b1.at (wpAny_bind (wpAny_call (codeAny_mono hq fun r s' z => ?_))))))
  rcases r with e | (v | _ | _ | _) <;> first | exact z | exact z.elim | skip
  obtain ⟨rfl, z⟩ := z
  first | exact wpAny_pure (wpAny_pure z) | (wp_walk; exact z)
theorem check_tc {M : Model} {rest : List Value} {kw : List (Str × Value)} {Q : Unit → Shared → Prop} (hC : h.get? C = some (excClassObj nm q C N bs bm hdct sn sub ab col dd k0 k1 k2 k3 k5 newId))
    (hq : Q () ⟨h, g, d, t, os⟩) : wpAny M A (checkBuiltinCall "type.__call__" ⟨.ref C :: rest, kw⟩) Q E ⟨h, g, d, t, os⟩ := by
  have f3 := tc_sub
  have hT : (⟨h, g, d, t, os⟩ : Shared).TypeIs (.ref C) "type" := ⟨_, hC, rfl⟩
  simp only [checkBuiltinCall, tc_kind, tc_split]
  repeat (any_goals (first
    | assumption
    | with_reducible refine wpAny_loadPart_at hC ?_
    | with_reducible refine wpAny_onRaise ?_
    | with_reducible refine wpAny_map ?_
    | wp_step))
theorem callX (F : ExcBaseFacts B newId initId bmB) (T : TailOk B bm) {rest : List Value} {kw : List (Str × Value)} {fI : Addr}
    (hC : h.get? C = some (excClassObj nm q C N bs bm hdct sn sub ab col dd k0 k1 k2 k3 k5 newId)) (hr : rest.length ≤ sizeLine)
    (hi : Looks (model prog w) h (typeLookup (.ref C) "__init__") (some (.ref fI))) (hb : ∀ self, Looks (model prog w) h (bindSpecial (.ref fI) self) (.ref fI, [self]))
    (hq : codeAny (model prog w) (A.under (.builtin "type.__call__" ⟨.ref C :: rest, kw⟩)) (.call (.ref fI) ⟨.ref (h.objs.size + 1) :: rest, kw⟩) (InitBack (h.objs.size + 1) R)
      ⟨(h.push (excTup rest)).push (eo C h.objs.size), g, d, t, os⟩) :
    codeAny (model prog w) A (.call (.ref C) ⟨rest, kw⟩) R ⟨h, g, d, t, os⟩ := by
  have f1 := tc_lookup
  have f2 := tc_bind (.ref C)
  have hTy : (⟨h, g, d, t, os⟩ : Shared).TypeIs (.ref C) "type" := ⟨_, hC, rfl⟩
  refine codeAny_of_tree ?_
  show wpAny _ _ (callAny (.ref C) _) _ _ _
  repeat (any_goals (first | assumption | with_reducible refine wpAny_loadPart_at hC ?_ | wp_step))
  refine ⟨rfl, codeAny_call_builtin_at (Code.quiet_builtin _ (by decide +kernel)) entry_typeCall (check_tc hC (type_callX F T hC hr hi hb (codeAny_mono hq fun r s' z => ?_)))⟩
  rcases r with e | (v | _ | _ | _) <;> exact z
/-- what is asked of B.__init__ -/
structure IniK (B initId : String) : Prop where
  plain : plainId initId = true
  entry : entryFor table initId = some Builtin.«BaseException.__init__»
  split : splitId initId = some (B, "__init__")
  kind : builtinKind initId = some .slot
  row : Manifest.signature? initId = some ⟨.positional, "*", B, .self, [⟨"args", .varPos, false⟩]⟩
  noStar : (B != "*") = true
/-- B.__init__(e, ..): the args are laid anew -/
theorem iniX (F : IniK B initId) (hB : bm.contains (.type B) = true) {e t0 : Addr} {rest : List Value}
    (hC : h.get? C = some (excClassObj nm q C N bs bm hdct sn sub ab col dd k0 k1 k2 k3 k5 newId)) (he : h.get? e = some (eo C t0)) (hr : rest.length ≤ sizeLine)
    (hq : ∀ h' t1, (∀ b o, b ≠ e → h.get? b = some o → h'.get? b = some o) → h'.get? e = some (eo C t1) → R (.ok (.ret .none)) ⟨h', g, d, t, os⟩) :
    codeAny (model prog w) A (.call (.builtin initId) ⟨.ref e :: rest, []⟩) R ⟨h, g, d, t, os⟩ := by
  have cc : (Value.ref C :: bm).contains (.type B) = true := by rw [List.contains_cons, hB, Bool.or_true]
  have ns := F.noStar
  have chk : ∀ {M : Model} {A : Around} {Q : Unit → Shared → Prop} {E : Value → Shared → Prop}, Q () ⟨h, g, d, t, os⟩ → wpAny M A (checkBuiltinCall initId ⟨.ref e :: rest, []⟩) Q E ⟨h, g, d, t, os⟩ := by
    intro M A Q E z
    simp only [checkBuiltinCall, F.kind, F.split, F.row]
    repeat (first
      | with_reducible refine wpAny_loadPart_at he ?_
      | with_reducible refine wpAny_loadPart_at hC ?_
      | (with_reducible refine wpAny_isSubtype_exc hC ?_; rw [cc])
      | wp_step)
    refine wpAny_onRaise ?_
    have z1 : ∀ (a b : String) (n : Nat), Bind.check ⟨.positional, "*", B, .self, [⟨"args", .varPos, false⟩]⟩ a b n (([] : List (Str × Value)).map fun x => x.1) = pure () := fun a b n => check_star_args _ _ _ _ _ _
    exact wpAny_of_eq (z1 _ _ _) z
  refine codeAny_call_builtin F.plain F.entry (chk ?_)
  refine exc_init_tree (cls := .ref C) (t0 := t0) (dv := none) (c2 := .none) (c3 := .none) (b4 := .bool false) he hr fun h' k e' _ => ?_
  exact hq h' _ k e'
end
end Ex

namespace Ex
open PySem PySem.Spec PyProof.Rows L2
/-- what the written part says of an exception class over the built-in whose tail is bmB, made by newId of the built-in B -/
structure ExK (K : PySem.W.Frag) (C : Addr) (bmB : List Value) (newId : String) : Prop where
  ini : PySem.W.excInitIn K C bmB newId = true
  ovr : PySem.W.excOver K C bmB = true
  hdc : PySem.W.hasDictIn K C = true
  sa : PySem.W.findIn K (.ref C) "__setattr__" = some (some (.builtin "object.__setattr__"))
  kC : PySem.W.keepIn K (.ref C) = true
  is : ExcC K C
def exB (K : PySem.W.Frag) (C : Addr) (bmB : List Value) (newId : String) : Bool :=
  PySem.W.excInitIn K C bmB newId && (PySem.W.excOver K C bmB && (PySem.W.hasDictIn K C && (decide (PySem.W.findIn K (.ref C) "__setattr__" = some (some (.builtin "object.__setattr__"))) && (PySem.W.keepIn K (.ref C) &&
  (decide (PySem.W.findIn K (.ref C) "__getattribute__" = some (some (.builtin "BaseException.__getattribute__"))) && (decide (PySem.W.findIn K (.ref C) "__getattr__" = some none) &&
  (decide (PySem.W.subIn K (.ref C) (.type "BaseException") = some true) && (decide (PySem.W.findIn K (.ref C) "__class__" = some (some (.builtin "object.__class__"))) && decide (PySem.W.mroIn K C (.type "object") = some true)))))))))
theorem exB_ok {K : PySem.W.Frag} {C : Addr} {bmB : List Value} {newId : String} (h : exB K C bmB newId = true)
    (hn : PySem.W.specialIn K (.builtin "object.__class__") "__get__" = some (some (.builtin "getset_descriptor.__get__"))) (ht : PySem.W.takesIn K (.builtin "object.__class__") = some true) : ExK K C bmB newId := by
  obtain ⟨h1, h⟩ := Bool.and_eq_true_iff.mp h
  obtain ⟨h2, h⟩ := Bool.and_eq_true_iff.mp h
  obtain ⟨h3, h⟩ := Bool.and_eq_true_iff.mp h
  obtain ⟨h4, h⟩ := Bool.and_eq_true_iff.mp h
  obtain ⟨h5, h⟩ := Bool.and_eq_true_iff.mp h
  obtain ⟨h6, h⟩ := Bool.and_eq_true_iff.mp h
  obtain ⟨h7, h⟩ := Bool.and_eq_true_iff.mp h
  obtain ⟨h8, h⟩ := Bool.and_eq_true_iff.mp h
  obtain ⟨h9, h⟩ := Bool.and_eq_true_iff.mp h
  exact ⟨h1, h2, h3, of_decide_eq_true h4, h5, ⟨of_decide_eq_true h6, of_decide_eq_true h7, of_decide_eq_true h8, h3, of_decide_eq_true h9, hn, ht, of_decide_eq_true h⟩⟩

section
variable {X : Cx} {pins : List (Addr × Obj)} {σ : L2.St} {H : Hp} {s : Shared} {a C dx : Addr} {f : Str} {y : V} {u : Value} {Q : Unit → Shared → Prop} {E : Value → Shared → Prop} {A : Around} {bmB : List Value} {B newId : String}
/-- a tracked object is changed, another one is laid -/
theorem two {h' : Heap} {tk : Nat} {oa na od : HO} (I : L2.Inv X pins σ H s) (e : H a = some oa) (mu : Mut (some oa)) (hd : s.heap.objs.size ≤ dx) (hda : dx ≠ a) (k : ∀ b o, b ≠ a → s.heap.get? b = some o → h'.get? b = some o)
    (ha' : ∃ o, h'.get? a = some o) (oka : ObjOk X.prog X.w (upd (upd H dx od) a na) h' a na) (okd : ObjOk X.prog X.w (upd (upd H dx od) a na) h' dx od) : L2.Inv X pins σ (upd (upd H dx od) a na) { s with heap := h', toks := tk } := by
  have hn : H dx = none := I.hok.fresh hd
  have n1 : ∀ {b : Addr} {o : Obj}, s.heap.get? b = some o → b ≠ dx := fun {b o} z => Nat.ne_of_lt (Nat.lt_of_lt_of_le (Heap.lt_size z) hd)
  have n2 : ∀ {b : Addr}, H b = none → b ≠ a := fun {b} z w => by
    rw [w, e] at z
    cases z
  have n3 : ∀ {b : Addr} {o : HO}, H b = some o → ¬ Mut (some o) → b ≠ a := fun {b o} z m w => by
    rw [w, e] at z
    cases z
    exact m mu
  have up : ∀ {b : Addr} {o : HO}, H b = some o → ¬ Mut (some o) → upd (upd H dx od) a na b = some o := fun {b o} z m => by
    rw [upd_ne (n3 z m), upd_ne (ne_of_none z hn)]
    exact z
  refine I.un (t' := tk) ⟨fun b o q n _ _ => k b o (n2 n) q, fun b o q n _ _ => ⟨o.slots, k b o (n2 n) q⟩, fun b o q n _ => ?_, fun b o q _ => ?_, fun b xs q => up q id, fun b o v q => up q id, fun b ps q => ⟨#[], ?_⟩⟩ fun b o q => ?_
  · rw [upd_ne (n2 n), upd_ne (n1 q)]
    exact n
  · by_cases hb : b = a
    · rw [hb]
      exact ha'
    · exact ⟨o, k b o hb q⟩
  · rw [up q id]
    simp
  · by_cases hb : b = a
    · rw [hb, upd_same] at q
      cases q
      rw [hb]
      exact oka
    · rw [upd_ne hb] at q
      by_cases hb2 : b = dx
      · rw [hb2, upd_same] at q
        cases q
        rw [hb2]
        exact okd
      · rw [upd_ne hb2] at q
        refine (I.hok b o q).stay (fun c v hc z => k c v ?_ z) (fun c hc => up hc id) fun c xs hc => up hc id
        rcases hc with hc | hc
        · rw [hc]
          exact hb
        · exact n3 hc id
open PySem.Builtin PySem.Builtin.ObjectAttr in
/-- self.f = y on an exception that has no dict -/
theorem st_new (SF : StoreFacts B bmB "object.__setattr__" "object") (T : ExK X.K C bmB newId) (I : L2.Inv X pins σ H s) (e : H a = some (exo a C none)) (hno : PySem.W.takerIn X.K C f = some none) (ry : L2.RelV y u)
    (h : ∀ dx s', H dx = none → dx ≠ a → L2.Inv X pins σ (upd (upd H dx (exd dx [(f, y)])) a (exo a C (some dx))) s' → Q () s') : wpAny (model X.prog X.w) A (setAttr (.ref a) f u) Q E s := by
  obtain ⟨cd, hcd, hdc⟩ := PySem.W.any_some T.hdc
  obtain ⟨t1, ho⟩ := exo_at I.hok e
  obtain ⟨hp, g, d, t, os⟩ := s
  have hxs : a ≠ hp.objs.size := Nat.ne_of_lt (Heap.lt_size ho)
  have hcls : PySem.W.Looks (model X.prog X.w) hp (classData C) cd := PySem.W.looks_clsIn I.kIn hcd
  have fin : ∀ h' tk', (∀ b o, b ≠ a → hp.get? b = some o → h'.get? b = some o) → h'.get? a = some (PySem.W.excObj C t1 (some hp.objs.size) .none) → h'.Ns1 hp.objs.size (fun y => if y = f then some u else none) → Q () ⟨h', g, d, tk', os⟩ := by
    intro h' tk' k hx hn
    exact h hp.objs.size _ (I.hok.fresh (Nat.le_refl _)) hxs.symm (two (od := exd hp.objs.size [(f, y)]) (na := exo a C (some hp.objs.size)) (tk := tk') I e trivial (Nat.le_refl _) hxs.symm k ⟨_, hx⟩ (exo_ok hx) (exd_ok hn (relO_put (fs := []) ry fun g => True.intro)))
  refine PySem.W.set_plain I.kIn (ox := PySem.W.excObj C t1 none .none) (od := none) ⟨ho, rfl, rfl, trivial⟩ T.sa ?_
  refine PySem.W.osa_openX SF I.kIn (ox := PySem.W.excObj C t1 none .none) (od := none) ⟨ho, rfl, rfl, trivial⟩ T.ovr hno fun b => ?_
  obtain ⟨nm, bs, mro, ns, qn, hd, sn, sb, ab, col, del⟩ := cd
  dsimp only at hdc
  subst hdc
  unfold storeInOwnDict ownDictForStores
  repeat (first | with_reducible refine PySem.HandSPX.store_in_new ?_ ?_ | with_reducible refine wpAny_loadPart_at ho ?_ | with_reducible refine hcls.at ?_ | wp_step)
  · exact ⟨_, #[], _, (Heap.get?_update_ne _ _ _ _ hxs.symm).trans (Heap.get?_push_at rfl rfl), rfl, fun e he => absurd he (by simp), fun _ => rfl⟩
  · intro h' tk' hn' hs
    refine fin h' tk' (fun b o hb ho => ?_) ?_ hn'
    · exact (hs.2 b (Nat.ne_of_lt (Heap.lt_size ho))).trans ((Heap.get?_update_ne _ _ _ _ hb).trans (Heap.get?_push_of_some _ ho))
    · exact (hs.2 a hxs).trans (Heap.get?_update_self _ (Heap.get?_push_of_some _ ho) rfl)
theorem upd_id {o : HO} (e : H a = some o) : upd H a o = H := by
  funext b
  by_cases hb : b = a
  · rw [hb, upd_same, e]
  · rw [upd_ne hb]
/-- B.__init__(e, ..) on an exception that has no dict -/
theorem st_ini {initId : String} (F : IniK B initId) (hB : bmB.contains (.type B) = true) (T : ExK X.K C bmB newId) (I : L2.Inv X pins σ H s) (e : H a = some (exo a C none)) {us : List Value} (hl : us.length ≤ sizeLine) {Q : Value → Shared → Prop}
    (h : ∀ s', L2.Inv X pins σ H s' → Q .none s') : wpAny (model X.prog X.w) A (call (.builtin initId) (.ref a :: us)) Q E s := by
  obtain ⟨nm, N', qn, bs, bm, hdct, sn, sub, ab, col, dd, k0, k1, k2, k3, k5, hC, hT⟩ := PySem.W.excInit_of I.kIn T.ini
  obtain ⟨t1, ho⟩ := exo_at I.hok e
  obtain ⟨hp, g, d, t, os⟩ := s
  refine wpAny_call (iniX F ((hT B).trans hB) hC ho hl fun h' t2 k hx => h _ ?_)
  have J := I.write (t' := t) (x := a) (e := a) (o := exo a C none) (by rw [e]; exact True.intro) (.inl rfl) k ⟨_, hx⟩ (exo_ok hx)
  rw [upd_id e] at J
  exact J
end

section
variable {X : Cx} {a C : Addr} {f : Str} {bmB bmF : List Value} {B BN newId initId : String} {e o : Expr} {es : List Expr} {te to : TE} {ta : TA} {p p' p1 p2 pos kpos : Pos}
/-- self.f = e, e an exception's first field -/
def tSt (K : PySem.W.Frag) (bmB : List Value) (newId : String) (f : Str) (to te : TE) : TS := fun D σ H => te σ H fun y H1 => to σ H1 fun x H2 => ∃ a C : Addr, x = .ref a ∧ ExK K C bmB newId ∧ PySem.W.takerIn K C f = some none ∧
  H2 a = some (exo a C none) ∧ ∀ dx, H2 dx = none → dx ≠ a → D.nx σ (upd (upd H2 dx (exd dx [(f, y)])) a (exo a C (some dx)))
theorem ps_st (SF : StoreFacts B bmB "object.__setattr__" "object") (ho : PE X o to) (he : PE X e te) (hs : swapsWith e (some (.Attribute o f p')) pos.line X.env = pure false := by rfl) : PS X (.Assign [.Attribute o f p'] e pos) (tSt X.K bmB newId f to te) := by
  refine ⟨fun pins s σ H D I h => ?_⟩
  refine plainObj_wpAny_Assign_Attribute (thn (he.run pins s σ H _ I h) fun v s1 ⟨y, H1, I1, r1, q1⟩ => thn (ho.run pins s1 σ H1 _ I1 q1) fun u s2 ⟨x, H2, I2, r2, a, C, ex, T, hno, ea, q⟩ => ?_) hs
  subst ex
  obtain rfl : u = Value.ref a := r2
  exact st_new SF T I2 ea hno r1 fun dx s' n ne J => ⟨σ, _, J, q dx n ne⟩
/-- D.__init__(self, ..), D a class whose __init__ is a built-in's -/
def tIn (K : PySem.W.Frag) (bmB : List Value) (newId : String) (ta : TA) : TE := fun σ H Q => ta σ H fun vs H1 => ∃ (a C : Addr) (ws : List V), vs = .ref a :: ws ∧ ws.length ≤ 1000 ∧ ExK K C bmB newId ∧ H1 a = some (exo a C none) ∧ Q .non H1
theorem in_end {pins : List (Addr × Obj)} {σ : L2.St} {H : Hp} {s1 : Shared} {us : List Value} {vs : List V} {Q : VK} (F : IniK B initId) (hB : bmB.contains (.type B) = true) (I1 : L2.Inv X pins σ H s1) (r1 : Vals vs us)
    (q : ∃ (a C : Addr) (ws : List V), vs = .ref a :: ws ∧ ws.length ≤ 1000 ∧ ExK X.K C bmB newId ∧ H a = some (exo a C none) ∧ Q .non H) : wpAny (model X.prog X.w) X.A (call (.builtin initId) us) (EP X pins σ Q) X.xe s1 := by
  obtain ⟨a, C, ws, rfl, hl, T, ea, q⟩ := q
  cases r1 with
  | @cons _ u0 _ ur ra rw' =>
    obtain rfl : u0 = Value.ref a := ra
    have hlen : ur.length ≤ sizeLine := by
      rw [← Paired.length rw', sizeLine_eq]
      omega
    exact st_ini F hB T I1 ea hlen fun s' J => ⟨.non, H, J, rfl, q⟩
/-- D.__init__(self, ..), D an own class without an __init__ of its own -/
theorem pe_inOwn {D : Addr} {x : Str} {pl : Sem Bool} (F : IniK B initId) (hB : bmB.contains (.type B) = true) (hg : Gl X x) (hm : X.mg x = some (.ref D)) (hsp : PySem.W.specialIn X.K (.ref D) "__getattribute__" = some (some (.builtin "type.__getattribute__")))
    (hty : PySem.W.typeIn X.K (.ref D) = some (.type "type")) (hrd : PySem.W.readsIn X.K D (.type "type") = true) (hfc : PySem.W.findCls X.K (.ref D) (.type "type") "__init__" = some (.val (.builtin initId))) (ha : PA X (e :: es) ta)
    (hc : eval (.Call (.Attribute (.Name x p1) "__init__" p2) (e :: es) [] pos) X.env = (do
      let ov ← eval (.Name x p1) X.env
      standAt p2.atName
      let (f, first) ← holding [ov] (getMethod ov "__init__" pl)
      callWith pos f first (backTo pos (starEach (e :: es) X.env)) (backToKw pos (keywordEach [] X.env))) := by rfl)
    (hh : PySem.W.handedIn (.builtin initId) = true := by decide +kernel)
    (hdb : (x == ("__debug__" : Str)) = false := by decide) (he : starEach (e :: es) X.env = (false, eval e X.env) :: starEach es X.env := by rfl) (hpl : (backTo pos (starEach es X.env)).any (·.1) = false := by rfl) :
    PE X (.Call (.Attribute (.Name x p1) "__init__" p2) (e :: es) [] pos) (tIn X.K bmB newId ta) := by
  refine ⟨fun pins s σ H Q I h => ?_⟩
  refine PySem.W.methodCall_KW (ld_glob I hg hm ?_ hdb) hc
  obtain ⟨m, fr⟩ := I.fr
  refine PySem.W.method_of_cls fr I.ok.mod.kin hsp (PySem.W.cls_val fr I.ok.mod.kin hty hrd hfc hh ?_)
  exact PyProof.Rows.callWith_method1 (thn (ha.run pos pins _ σ H _ (I.tok _) h) fun us s1 ⟨vs, H1, I1, r1, q⟩ => in_end F hB I1 r1 q) he hpl
/-- T.__init__(self, ..), T a built-in class -/
theorem pe_inBlt {T : String} {x : Str} {pl : Sem Bool} (F : IniK B initId) (hB : bmB.contains (.type B) = true) (hg : Gl X x) (hm : X.mg x = none) (hv : bootBuiltins x = some (.type T)) (hty : typeOf (.type T) = pure (.type "type")) (hst : Manifest.isStub T = false)
    (hfc : PySem.W.findCls X.K (.type T) (.type "type") "__init__" = some (.val (.builtin initId))) (ha : PA X (e :: es) ta)
    (hc : eval (.Call (.Attribute (.Name x p1) "__init__" p2) (e :: es) [] pos) X.env = (do
      let ov ← eval (.Name x p1) X.env
      standAt p2.atName
      let (f, first) ← holding [ov] (getMethod ov "__init__" pl)
      callWith pos f first (backTo pos (starEach (e :: es) X.env)) (backToKw pos (keywordEach [] X.env))) := by rfl)
    (hh : PySem.W.handedIn (.builtin initId) = true := by decide +kernel) (hn : x ≠ "__name__" := by decide) (hdb : (x == ("__debug__" : Str)) = false := by decide) (he : starEach (e :: es) X.env = (false, eval e X.env) :: starEach es X.env := by rfl) (hpl : (backTo pos (starEach es X.env)).any (·.1) = false := by rfl) :
    PE X (.Call (.Attribute (.Name x p1) "__init__" p2) (e :: es) [] pos) (tIn X.K bmB newId ta) := by
  refine ⟨fun pins s σ H Q I h => ?_⟩
  refine PySem.W.methodCall_KW (ld_blt I hg hm hv ?_ hn hdb) hc
  obtain ⟨m, fr⟩ := I.fr
  refine PySem.W.method_type fr I.ok.mod.kin hty hst hfc hh ?_
  exact PyProof.Rows.callWith_method1 (thn (ha.run pos pins _ σ H _ (I.tok _) h) fun us s1 ⟨vs, H1, I1, r1, q⟩ => in_end F hB I1 r1 q) he hpl

/-! ### C(..) -/
/-- the class is made by an __init__ of its own, at fI, which keeps sp -/
structure MkX (P : Program) (w : World) (K : PySem.W.Frag) (mg : Str → Option Value) (base : Heap) (C : Addr) (bmB : List Value) (newId : String) (k : Nat) (ps : List Str) (sp : Sp) : Prop where
  how : ∃ (BN initId : String) (bmF : List Value) (fI : Addr) (fd : FuncData), ExcBaseFacts BN newId initId bmF ∧ TailOk BN bmB ∧ PySem.W.findIn K (.ref C) "__init__" = some (some (.ref fI)) ∧ PySem.W.isFn K (.ref fI) = true ∧
    FnOk P w K mg base CX0 k fI fd ps sp ∧ (∀ us : List Value, us.length = ps.length → bindArgs fd ⟨us, []⟩ = pure (ps.zip us)) ∧ ∀ a u : Value, ∀ p : Str, ps = [("self" : Str), p] → bindArgs fd ⟨[a], [(p, u)]⟩ = pure (ps.zip [a, u])
  ex : ExK K C bmB newId
theorem mk_run {pins : List (Addr × Obj)} {σ : L2.St} {H : Hp} {s : Shared} {Q : VK} {ps : List Str} {sp : Sp} {k : Nat} {us vals : List Value} {kw : List (Str × Value)} {vs : List V} (M : MkX X.prog X.w X.K X.mg X.base C bmB newId k ps sp) (hr : Room (k + 1) X.A) (hl : us.length ≤ 1000)
    (hk : (us = vals ∧ kw = []) ∨ ∃ (p : Str) (u : Value), ps = [("self" : Str), p] ∧ us = [] ∧ vals = [u] ∧ kw = [(p, u)]) (I : L2.Inv X pins σ H s) (r : Vals vs vals)
    (h : ∀ a, H a = none → sp (.ref a :: vs) (upd H a (exo a C none)) (fun v H2 => v = .non ∧ Q (.ref a) H2) E0) : wpAny (model X.prog X.w) X.A (call (.ref C) us kw) (EP X pins σ Q) X.xe s := by
  obtain ⟨BN, initId, bmF, fI, fd, FB, TB, iC, fn, F1, hb1, hb2⟩ := M.how
  obtain ⟨nm, N', qn, bs, bm, hdct, sn, sub, ab, col, dd, k0, k1, k2, k3, k5, hC, hT⟩ := PySem.W.excInit_of I.kIn M.ex.ini
  obtain ⟨oI, hoI, hcI⟩ : ∃ oI, s.heap.get? fI = some oI ∧ oI.cls = .type "function" := by
    obtain ⟨o, ho, hc⟩ := Option.map_eq_some_iff.mp (show (X.K.lookup fI).map (·.cls) = some (.type "function") from beq_iff_eq.mp fn)
    exact ⟨o, I.kIn _ _ ho, hc⟩
  have hi := PySem.W.looks_findIn (M := model X.prog X.w) I.kIn iC
  obtain ⟨hp, g, dr, tk, os⟩ := s
  have hsz : hp.objs.size ≤ hp.objs.size + 1 := Nat.le_succ _
  have hq := h (hp.objs.size + 1) (I.hok.fresh hsz)
  have kk : ∀ b o, hp.get? b = some o → ((hp.push (PySem.W.excTup us)).push (eo C hp.objs.size)).get? b = some o := fun b o e => Heap.get?_push_of_some _ (Heap.get?_push_of_some _ e)
  have hget : ((hp.push (PySem.W.excTup us)).push (eo C hp.objs.size)).get? (hp.objs.size + 1) = some (eo C hp.objs.size) := by heap_get
  have I2 := I.laid (t' := tk) (a := hp.objs.size + 1) (o := exo (hp.objs.size + 1) C none) (h' := (hp.push (PySem.W.excTup us)).push (eo C hp.objs.size)) kk hsz (exo_ok hget)
  have r2 : Vals (V.ref (hp.objs.size + 1) :: vs) (Value.ref (hp.objs.size + 1) :: vals) := .cons rfl r
  have hlen : (Value.ref (hp.objs.size + 1) :: vals).length = ps.length := by
    rw [← r2.length]
    exact F1.len _ _ _ _ hq
  have hbind : ∀ s, BindsTo s fd ⟨Value.ref (hp.objs.size + 1) :: us, kw⟩ (ps.zip (Value.ref (hp.objs.size + 1) :: vals)) := fun s => by
    rcases hk with ⟨rfl, rfl⟩ | ⟨p, u, rfl, rfl, rfl, rfl⟩
    · exact .of_eq (hb1 _ hlen)
    · exact .of_eq (hb2 _ u p rfl)
  have hus : us.length ≤ sizeLine := by
    rw [sizeLine_eq]
    omega
  refine wpAny_call (callX FB ⟨(hT _).trans TB.hB, (hT _).trans TB.hA, (hT _).trans TB.hN⟩ hC hus hi (fun self => PySem.W.exc_bind hoI hcI self) (codeAny_mono (F1.run _ X.stack _ _ _ _ _ _ E0 (hr.make C us kw) (I2.env0.make C us kw) (hbind _) r2 hq) fun r s' hq' => ?_))
  cases r with
  | error e => exact False.elim hq'
  | ok fl =>
    cases fl with
    | ret u =>
      obtain ⟨v, H', I3, rv, ev, q3⟩ := I2.after hq'
      subst ev
      exact ⟨rv, V.ref (hp.objs.size + 1), H', I3, rfl, q3⟩
    | next => exact False.elim hq'
    | brk => exact False.elim hq'
    | cont => exact False.elim hq'
def tMk (C : Addr) (sp : Sp) (ta : TA) : TE := fun σ H Q => ta σ H fun vs H1 => vs.length ≤ 1000 ∧ ∀ a, H1 a = none → sp (.ref a :: vs) (upd H1 a (exo a C none)) (fun v H2 => v = .non ∧ Q (.ref a) H2) E0
theorem pe_mk {x : Str} {ps : List Str} {sp : Sp} {k : Nat} (M : MkX X.prog X.w X.K X.mg X.base C bmB newId k ps sp) (hr : Room (k + 1) X.A) (hg : Gl X x) (hm : X.mg x = some (.ref C)) (ha : PA X (e :: es) ta) (hdb : (x == ("__debug__" : Str)) = false := by decide)
    (he : starEach (e :: es) X.env = (false, eval e X.env) :: starEach es X.env := by rfl) (hpl : (backTo pos (starEach es X.env)).any (·.1) = false := by rfl) : PE X (.Call (.Name x p) (e :: es) [] pos) (tMk C sp ta) := by
  refine ⟨fun pins s σ H Q I h => ?_⟩
  refine wpAny_Call_Name_kw (ld_glob I hg hm ?_ hdb)
  refine PySem.W.callWith_K (h₀ := X.base) I.ok.mod.kin M.ex.kC (thn (ha.run pos pins s σ H _ I h) fun us s1 ⟨vs, H1, I1, r, hl, q⟩ => ⟨I1.kIn, ?_⟩) he hpl
  exact mk_run M hr (by rw [List.nil_append, ← Paired.length r]; exact hl) (.inl ⟨rfl, rfl⟩) I1 (by rw [List.nil_append]; exact r) q
def tMkK (C : Addr) (sp : Sp) (te : TE) : TE := fun σ H Q => te σ H fun x H1 => ∃ v, [x] = [v] ∧ ∀ a, H1 a = none → sp [.ref a, v] (upd H1 a (exo a C none)) (fun v H2 => v = .non ∧ Q (.ref a) H2) E0
theorem pe_mkK {x f : Str} {sp : Sp} {k : Nat} (M : MkX X.prog X.w X.K X.mg X.base C bmB newId k ["self", f] sp) (hr : Room (k + 1) X.A) (hg : Gl X x) (hm : X.mg x = some (.ref C)) (hv : PE X e te) (hdb : (x == ("__debug__" : Str)) = false := by decide)
    (hall : (backToKw pos (keywordEach [⟨some f, e, kpos⟩] X.env)).all (·.1.isSome) = true := by rfl) (hks : (backToKw pos (keywordEach [⟨some f, e, kpos⟩] X.env)).filterMap (·.1) = [f] := by rfl)
    (hpl : ((backTo pos (starEach [] X.env)).any (·.1) || (backToKw pos (keywordEach [⟨some f, e, kpos⟩] X.env)).any (·.1.isNone)) = false := by rfl) :
    PE X (.Call (.Name x p) [] [⟨some f, e, kpos⟩] pos) (tMkK C sp te) := by
  refine ⟨fun pins s σ H Q I h => ?_⟩
  refine wpAny_Call_Name_kw (ld_glob I hg hm ?_ hdb)
  refine PySem.W.callWith_KW0 (h₀ := X.base) I.ok.mod.kin M.ex.kC hall ?_ hpl
  refine thn ((pk_cons hv pk_nil).run pos pins s σ H (fun vs H1 => ∃ v, vs = [v] ∧ ∀ a, H1 a = none → sp [.ref a, v] (upd H1 a (exo a C none)) (fun v H2 => v = .non ∧ Q (.ref a) H2) E0) I h) fun ws s2 ⟨zs, H2, I2, rz, v, ev, q2⟩ => ⟨I2.kIn, ?_⟩
  subst ev
  rw [hks]
  cases rz with
  | cons r1 rz =>
    cases rz
    exact mk_run (us := []) M hr (Nat.zero_le _) (.inr ⟨f, _, rfl, rfl, rfl, rfl⟩) I2 (.cons r1 .nil) q2
end
end Ex
namespace Ex
open PySem PySem.W PySem.Calls PyProof.Rows
section
variable {prog : Program} {w : World} {A : Around} {E : Value → Shared → Prop} {s : Shared} {K : Frag} {x D : Addr} {ox : Obj} {od : Option Obj}
/-- e.__class__ of an exception, with or without a dict of its own -/
theorem cls_of {Q : Option Value → Shared → Prop} (T : L2.ExcC K D) (X : K.In s.heap) (I : InstAt s.heap x ox D od) (h : Q (some (.ref D)) { s with toks := s.toks + 1 }) : wpAny (model prog w) A (getAttr? (.ref x) "__class__") Q E s := by
  have hf : findObj K D od "__class__" = some (.bind (.builtin "getset_descriptor.__get__") (.builtin "object.__class__")) := by
    obtain ⟨cd, hc, _⟩ := any_some T.hd
    unfold findObj
    rw [hc, Option.bind_some, T.ha, Option.bind_some]
    simp [T.hn, T.ht]
  obtain ⟨hp, g, d, t, os⟩ := s
  have l0 := I.type (M := model prog w)
  have l1 := looks_findIn (M := model prog w) X T.hg
  have l2 := looks_findIn (M := model prog w) X T.hk
  have l3 := looks_find (M := model prog w) X I hf
  have sub : Looks (model prog w) hp (isInstance (.ref x) (.type "BaseException")) true := l0.andThen (looks_subIn X T.hs)
  have nb : (Value.builtin "BaseException.__getattribute__" == Value.builtin "object.__getattribute__") = false := by decide +kernel
  unfold getAttr? getAttrBy? getAttrBy
  refine wpAny_bind (wpAny_mkText (wpAny_bind (wpAny_attempt (wpAny_holding (wpAny_bind (l0.at (wpAny_bind (l1.at ?_))))))))
  show wpAny _ _ (if (onTheHeap (Value.ref D) && (Value.builtin "BaseException.__getattribute__" == Value.builtin "object.__getattribute__")) = true then _ else _) _ _ _
  rw [nb, Bool.and_false, if_neg Bool.false_ne_true]
  unfold getAttrByItsOwn hookBefore
  refine wpAny_bind ?_
  rw [if_pos (show onTheHeap (Value.ref D) = true from rfl)]
  refine l2.at (wpAny_bind (wpAny_attempt (wpAny_holding ?_)))
  unfold callGetattribute
  rw [if_neg (show ¬ (false && onTheHeap (Value.builtin "BaseException.__getattribute__")) = true from Bool.false_ne_true)]
  unfold boundAndCalled
  rw [F.excAttr_ValueError.ga.bind (.ref x)]
  refine wpAny_bind (wpAny_pure ?_)
  show wpAny _ _ (call (.builtin "BaseException.__getattribute__") [.ref x, .str "__class__" t]) _ _ _
  refine wpAny_call (codeAny_call_builtin F.excAttr_ValueError.ga.plain F.entry_bexc_ga ?_)
  refine @check_slot (model prog w) _ _ ⟨hp, g, d, t + 1, os⟩ "BaseException.__getattribute__" "BaseException" "__getattribute__" (.ref x) [.str "__class__" t] [] _ (by decide +kernel) (by decide +kernel) sub (F.args_bexc_ga (.ref x) (.str "__class__" t)) ?_
  unfold Builtin.«object.__getattribute__»
  refine wpAny_bind (wpAny_of_eq (a := ((Value.ref x : Value), [Value.str "__class__" t])) (by first | rfl | (simp only [slotArgs]; rfl)) ?_)
  refine wpAny_bind (wpAny_pure (wpAny_bind (l0.at (wpAny_bind (l3.at ?_)))))
  show wpAny _ _ (holding [Value.builtin "object.__class__"] (call (.builtin "getset_descriptor.__get__") [.builtin "object.__class__", .ref x, .ref D]) >>= ret) _ _ _
  refine wpAny_bind (wpAny_holding (wpAny_call (class_get (s := ⟨hp, g, d, t + 1, os⟩) (ox := ox) (od := od) X I T.hm ?_)))
  refine wpAny_pure ?_
  show wpAny _ _ (handedOut (.ref D)) _ _ _
  rw [handedOut_of (v := .ref D) rfl]
  first
    | exact wpAny_pure (wpAny_bind (wpAny_pure (wpAny_pure h)))
    | exact wpAny_pure (wpAny_pure h)
    | exact wpAny_pure h
theorem kitx_e (T : L2.ExcC K D) : KitX K (.ref x) (.ref D) (fun h => InstAt h x ox D od) where
  ty := fun _ _ _ I => I.type
  it := fun M h X _ => by
    obtain ⟨cd, hc, _⟩ := any_some T.hd
    unfold clsIn at hc
    split at hc
    · rename_i ho
      exact fun A' Q' E' s' k q => by
        unfold isType loadHead
        exact wpAny_bind (wpAny_loadPart (k _ _ (X _ _ ho)) (wpAny_pure q))
    · cases hc
  ne := fun h tp dd its n sl X htp => by
    obtain ⟨cd, hc, _⟩ := any_some T.hd
    refine Bool.eq_false_iff.mpr fun q => ?_
    obtain rfl : D = tp := Value.ref.inj (beq_iff_eq.mp q)
    unfold clsIn at hc
    split at hc
    · rename_i ho
      have z := (X _ _ ho).symm.trans htp
      cases z
    · cases hc
  ca := fun X I k => cls_of T X I k
end
end Ex

namespace Ex
open PySem PySem.Spec PyProof.Rows L2
section
variable {X : Cx} {a C d : Addr} {f : Str} {bmB bmF : List Value} {B BN newId initId : String} {e o : Expr} {es : List Expr} {te to : TE} {ta : TA} {p p' p1 p2 pos kpos : Pos}
/-- at a stands an exception of the class C; with a dict it has the one field f, with the value v -/
def Exc (H : Hp) (a C : Addr) (fv : Option (Str × V)) : Prop := match fv with
  | none => H a = some (exo a C none)
  | some (f, v) => ∃ d, H a = some (exo a C (some d)) ∧ H d = some (exd d [(f, v)])
theorem Exc.same {H H' : Hp} {fv : Option (Str × V)} (h : Exc H a C fv) (s : L2.Same H H') : Exc H' a C fv := by
  cases fv with
  | none => exact s _ _ h
  | some p =>
    obtain ⟨d, h1, h2⟩ := h
    exact ⟨d, s _ _ h1, s _ _ h2⟩
theorem Exc.inst {pins : List (Addr × Obj)} {σ : L2.St} {H : Hp} {s : Shared} {fv : Option (Str × V)} (I : L2.Inv X pins σ H s) (h : Exc H a C fv) :
    ∃ ox od, PySem.W.InstAt s.heap a ox C od ∧ ∀ f v, fv = some (f, v) → ∃ u o, L2.RelV v u ∧ od = some o ∧ PySem.W.lookIn f o = some (some u) := by
  cases fv with
  | none =>
    obtain ⟨t1, ho⟩ := exo_at I.hok (show H a = some (exo a C none) from h)
    exact ⟨_, none, ⟨ho, rfl, rfl, trivial⟩, fun f v e => nomatch e⟩
  | some q =>
    obtain ⟨f, v⟩ := q
    obtain ⟨d, h1, h2⟩ := h
    obtain ⟨t1, ho⟩ := exo_at I.hok h1
    obtain ⟨mA, hns, rel⟩ := exd_at I.hok h2
    obtain ⟨od, hod, hl⟩ := lookIn_ns hns
    refine ⟨_, some od, ⟨ho, rfl, rfl, hod⟩, fun f' v' e => ?_⟩
    cases e
    have r := rel f
    rw [show ([(f, v)] : List (Str × V)).lookup f = some v by simp [List.lookup]] at r
    obtain ⟨u, hu, ru⟩ := RelO.some_of r
    exact ⟨u, od, ru, rfl, by rw [hl, hu]⟩
/-- isinstance(e, c) -/
def rIs (K : PySem.W.Frag) : List V → Hp → VK → Prop := fun xs H Q => ∃ (a D : Addr) (fv : Option (Str × V)) (c : V) (cv : Value) (b : Bool), xs = [.ref a, c] ∧ Exc H a D fv ∧ ExcC K D ∧ (∀ u, L2.RelV c u → u = cv) ∧ PySem.W.kitOne K (.ref D) cv = some b ∧ Q (.bl b) H
theorem call_is : CallR X (.builtin "isinstance") (rIs X.K) := by
  intro pins s σ H xs us Q I r h
  obtain ⟨a, D, fv, c, cv, b, rfl, hx, T, hcv, e, q⟩ := h
  obtain ⟨ox, od, J, _⟩ := hx.inst I
  cases r with
  | cons rx rr =>
    cases rr with
    | cons rt rr =>
      cases rr
      cases rx
      obtain rfl := hcv _ rt
      exact PySem.W.kia_one (kitx_e T) I.kIn J e (fun z => nomatch z) fun tk => ⟨.bl b, H, I.kept (t' := tk) fun _ _ z => z, rfl, q⟩
/-- e.f -/
def tGt (K : PySem.W.Frag) (f : Str) (te : TE) : TE := fun σ H Q => te σ H fun x H1 => ∃ (a C : Addr) (v : V), x = .ref a ∧ ExcC K C ∧ PySem.W.findIn K (.ref C) f = some none ∧ Exc H1 a C (some (f, v)) ∧ Q v H1
theorem pe_gt (he : PE X e te) (hb : attributeBase e f X.env (eval e X.env) = eval e X.env := by rfl) : PE X (.Attribute e f pos) (tGt X.K f te) := by
  refine ⟨fun pins s σ H Q I h => ?_⟩
  refine attr_of hb (thn (he.run pins s σ H _ I h) fun u s1 hh => ?_)
  obtain ⟨x, H1, I1, rx, a, C, v, ex, T, hno, hx, q⟩ := hh
  subst ex
  obtain rfl : u = Value.ref a := rx
  obtain ⟨ox, od, J, hv⟩ := hx.inst I1
  obtain ⟨u, o, ru, rfl, hl⟩ := hv f v rfl
  exact HandSPX.exc_get I1.kIn J T.hg T.hk T.hs (PySem.W.findObj_own T.hd hno rfl hl) (handed_of ru) ⟨v, H1, I1.tok _, ru, q⟩
/-- C(), the __init__ a built-in's -/
def tBare (C : Addr) : TE := fun σ H Q => ∀ a, H a = none → Q (.ref a) (upd H a (exo a C none))
theorem pe_bare {x : Str} (F : ExcBaseFacts BN newId initId bmB) (T : ExK X.K C bmB newId) (hi : PySem.W.findIn X.K (.ref C) "__init__" = some (some (.builtin initId))) (hg : Gl X x) (hm : X.mg x = some (.ref C)) (hdb : (x == ("__debug__" : Str)) = false := by decide) :
    PE X (.Call (.Name x p) [] [] pos) (tBare C) := by
  refine ⟨fun pins s σ H Q I h => ?_⟩
  refine wpAny_Call_Name_kw (ld_glob I hg hm ?_ hdb)
  refine PySem.W.callWith_K0 I.kIn T.kC ?_
  obtain ⟨nm, N', qn, bs, bm, hdct, sn, sub, ab, col, dd, k0, k1, k2, k3, k5, hC, hT⟩ := PySem.W.excInit_of I.kIn T.ini
  have hi' := PySem.W.looks_findIn (M := model X.prog X.w) I.kIn hi
  obtain ⟨hp, g, dr, tk, os⟩ := s
  refine PySem.W.call_B F hT hC hi' (Nat.zero_le _) fun h' k he ht => ?_
  have hn : H (hp.objs.size + 1) = none := I.hok.fresh (Nat.le_succ _)
  exact ⟨.ref (hp.objs.size + 1), _, I.laid (t' := tk) k (Nat.le_succ _) (exo_ok he), rfl, h _ hn⟩
end
end Ex
/-! the end of a law whose defs are known where no repr is under way -/
namespace Gd
open PySem PySem.Spec PyProof.Rows L2
theorem guards0 : callerA.guards = some [] := rfl
/-- from a heap of which at most the script is told -/
theorem law_coreG {P : Program} {w : World} {K : PySem.W.Frag} {mg mb : Str → Option Value} {k : Nat} {fa a : Addr} {fd : FuncData} {x : Str} {sp : Sp} {s₁ : Shared} {vs : List Value} {ns : List Int}
    (inK : K.In s₁.heap) (nsG : s₁.heap.Ns mainGlobals mg) (nsB : s₁.heap.Ns builtinsNs mb) (isB : ∀ x : Str, x ≠ "__name__" → mb x = bootBuiltins x) (nl : s₁.heap.NoLimit) (gens : s₁.gens = #[])
    (got : s₁.heap.get? a = some { cls := .type "list", data := .seq vs.toArray }) (room : Room k callerA)
    (F : ∀ base : Heap, FnG P w K mg base k fa fd [x] sp) (bnd : ∀ (s : Shared) (u : Value), BindsTo s fd ⟨[u], []⟩ [(x, u)])
    (H : Hp) (only : Only H) (told : sp [.ref a] H (fun v _ => v = .bl true) E0) (hok : HOk P w H s₁.heap) (atA : ∀ b, H b ≠ none → b = a) (offK : H a ≠ none → K.lookup a = none) :
    codeAny (model P w) callerA (.call (.ref fa) ⟨[.ref a], []⟩) (fun r s' => r = .ok (.ret (.bool true)) ∧ PySem.OldK s₁.heap s'.heap ∧ s'.os = s₁.os ∧ AllBare s'.gens) s₁ := by
  have noD : ∀ {b : Addr} {o : Obj} {es : Array DictEntry} {ep : Nat}, s₁.heap.get? b = some o → o.data = .dict es ep → H b = none := by
    intro b o es ep e d
    by_cases q : H b = none
    · exact q
    · obtain rfl := atA b q
      rw [got] at e
      cases e
      exact absurd (show Data.seq vs.toArray _ = Data.dict es ep from d) (fun z => nomatch z)
  have nsH : ∀ {b : Addr} {m : Str → Option Value}, s₁.heap.Ns b m → (hidT s₁.heap H).Ns b m := by
    rintro b m ⟨o, es, ep, e, d, r⟩
    exact ⟨o, es, ep, hidT_get e (noD e d), d, r⟩
  have inH : K.In (hidT s₁.heap H) := by
    intro b o e
    refine hidT_get (inK b o e) ?_
    by_cases q : H b = none
    · exact q
    · obtain rfl := atA b q
      rw [offK q] at e
      cases e
  have mods : Mod K mg (hidT s₁.heap H) := by
    obtain ⟨mc, l1, l2⟩ := nl
    exact ⟨inH, nsH nsG, ⟨mb, nsH nsB, isB⟩, ⟨mc, nsH l1, l2⟩⟩
  have env0 : Env0 P w K mg (hidT s₁.heap H) callerA [] s₁ H := by
    refine ⟨rfl, mods, fun b o e => of_hidT e, Nat.le_of_eq (hidT_size _ _), trivial, fun b hb => ?_, hok, .of_eq gens⟩
    exact absurd (show b ∈ ([] : List Addr) from hb) (by simp)
  have main := (F _).run callerA [] s₁ H ⟨[.ref a], []⟩ [.ref a] [.ref a] _ guards0 room env0 (bnd s₁ (.ref a)) (.cons rfl .nil) told
  refine codeAny_mono main fun r s' h => ?_
  match r, h with
  | .error e, h => exact False.elim h
  | .ok .next, h => exact False.elim h
  | .ok .brk, h => exact False.elim h
  | .ok .cont, h => exact False.elim h
  | .ok (.ret u), h =>
    obtain ⟨v, H', os, bare, un, hok', rv, q⟩ := h
    obtain rfl : v = .bl true := q
    obtain rfl : u = Value.bool true := rv
    refine ⟨rfl, PySem.OldK.of_keep fun b o e => ?_, os, bare⟩
    rcases only b with z | ⟨ob, xs, z⟩
    · exact un.keep b o e z (by intro z; exact absurd (show b ∈ ([] : List Addr) from z) (by simp)) (by simp)
    · obtain ⟨e1, _⟩ := hok b _ z
      obtain ⟨e2, _⟩ := hok' b _ (un.frzs b ob _ z)
      rw [e] at e1
      cases e1
      exact e2
theorem law_callG {P : Program} {w : World} {K : PySem.W.Frag} {mg mb : Str → Option Value} {k : Nat} {fa a : Addr} {fd : FuncData} {x : Str} {sp : Sp} {s₁ : Shared} {vs : List Value} {ns : List Int}
    (inK : K.In s₁.heap) (nsG : s₁.heap.Ns mainGlobals mg) (nsB : s₁.heap.Ns builtinsNs mb) (isB : ∀ x : Str, x ≠ "__name__" → mb x = bootBuiltins x) (nl : s₁.heap.NoLimit) (gens : s₁.gens = #[])
    (got : s₁.heap.get? a = some { cls := .type "list", data := .seq vs.toArray }) (theInts : IntsAre vs ns) (hl : ns.length ≤ sizeLine) (room : Room k callerA)
    (F : ∀ base : Heap, FnG P w K mg base k fa fd [x] sp) (bnd : ∀ (s : Shared) (u : Value), BindsTo s fd ⟨[u], []⟩ [(x, u)])
    (told : ∀ H : Hp, Only H → SqL K H a (ns.map V.int) → sp [.ref a] H (fun v _ => v = .bl true) E0) :
    codeAny (model P w) callerA (.call (.ref fa) ⟨[.ref a], []⟩) (fun r s' => r = .ok (.ret (.bool true)) ∧ PySem.OldK s₁.heap s'.heap ∧ s'.os = s₁.os ∧ AllBare s'.gens) s₁ := by
  have rel := vals_ints theInts
  have len := theInts.length
  by_cases hk : K.lookup a = none
  · let o : Obj := { cls := .type "list", data := .seq vs.toArray }
    let H : Hp := fun b => if b = a then some (.frz o (.lst (ns.map V.int))) else none
    have one : ∀ b u, H b = some u → b = a ∧ u = .frz o (.lst (ns.map V.int)) := by
      intro b u z
      by_cases hb : b = a
      · exact ⟨hb, (Option.some.inj ((if_pos hb).symm.trans z)).symm⟩
      · cases (if_neg hb).symm.trans z
    have only : Only H := fun b => by
      by_cases hb : b = a
      · exact .inr ⟨_, _, if_pos hb⟩
      · exact .inl (if_neg hb)
    refine law_coreG (ns := ns) inK nsG nsB isB nl gens got room F bnd H only (told H only (.inl (.inr ⟨o, if_pos rfl⟩))) (fun b u z => ?_) (fun b z => ?_) fun _ => hk
    · obtain ⟨rfl, rfl⟩ := one b u z
      exact ⟨got, by rw [List.length_map]; exact hl, vs, _, rel, got⟩
    · cases e : H b with
      | none => exact absurd e z
      | some u => exact (one b u e).1
  · obtain ⟨o, ho⟩ := Option.ne_none_iff_exists'.mp hk
    have e := inK a o ho
    rw [got] at e
    cases e
    have only : Only fun _ => none := fun _ => .inl rfl
    refine law_coreG (ns := ns) inK nsG nsB isB nl gens got room F bnd (fun _ => none) only (told _ only (.inr ⟨_, vs.toArray, _, ho, rfl, rfl, rfl, by rw [List.size_toArray, len]; exact hl, by simpa using rel⟩)) (fun b u z => nomatch z) (fun b z => absurd rfl z) fun z => absurd rfl z
theorem walk_ofG {l : PySem.W.OpenLaw} {n k : Nat} {q : Program} {loose : List Str} {XP : (Str → Option Value) → Heap → Prop} {YP : World → Heap → Prop} {d : DefRec} {K : Params → PySem.W.Frag} {sp : PySem.W.Frag → Sp} {x : Str}
    (most : l.most = some n) (small : n ≤ sizeLine) (nodf : d.params.defaults = []) (room : Room k callerA) (hY : ∀ (w : World) (h : Heap), YP w h → (K w.params).In h)
    (F : ∀ (w : World) (mg : Str → Option Value) (fa : Addr) (h : Heap), (K w.params).In h → h.Ns mainGlobals mg → mg d.name = some (.ref fa) →
      ∃ fd : FuncData, (∀ (s : Shared) (u : Value), BindsTo s fd ⟨[u], []⟩ [(x, u)]) ∧ ∀ base : Heap, FnG l.prog w (K w.params) mg base k fa fd [x] (sp (K w.params)))
    (told : ∀ (K : PySem.W.Frag) (H : Hp) (a : Addr) (ns : List Int), ns.length ≤ n → SqL K H a (ns.map V.int) → sp K [.ref a] H (fun v _ => v = .bl true) E0) :
    PySem.W.WalkO q loose XP YP l.row.toRowW d [] (fun f vs => PySem.call f vs) := by
  intro w s₀ s₁ mg mb G Y fa fo pm cd doc dV kV gotF isF code dfl mgF gens args vals as pre lays reads wells offs
  cases PySem.W.Dflts.none dfl nodf
  cases PySem.W.Dflts.noKw dfl
  have inK := hY w _ Y
  obtain ⟨a, vs, ns, rfl, rfl, got, theInts, hl⟩ := Att.script_of most pre wells
  obtain ⟨fd, bnd, hF⟩ := F w mg fa _ inK G.T.g mgF
  refine PySem.W.enter_call (codeAny_mono (law_callG inK G.T.g G.T.b G.T.builtins G.T.nolimit gens got theInts (Nat.le_trans hl small) room hF bnd fun H _ hS => told _ H a ns hl hS) fun r s' z => ?_)
  obtain ⟨rfl, z1, z2, z3⟩ := z
  exact ⟨.inl ⟨.bool true, .bool true, [], rfl, fun _ => rfl, .bool true, Att.post_true l _, fun _ => ⟨List.Pairwise.nil, fun _ e => (nomatch e)⟩⟩, z1, z2, z3⟩
end Gd
open PySem PySem.W PyProof.Rows
set_option maxRecDepth 100000 in
set_option maxHeartbeats 0 in
open_top hd68 for PySem.Challenge.rw_roundties_k68_whole_errors_and_eight_new
namespace K68
open PySem PySem.Spec PyProof.Rows L2 Gd Ex
def top (i : Nat) : Stmt := PySem.Challenge.pw_roundties_k68_whole_errors_and_eight_new.main.body.getD i (.Pass ⟨0, 0, 0, 0⟩)
abbrev veT : List Value := [.type "ValueError", .type "Exception", .type "BaseException", .type "object"]
abbrev keT : List Value := [.type "KeyError", .type "LookupError", .type "Exception", .type "BaseException", .type "object"]
theorem store_VE : StoreFacts "ValueError" veT "object.__setattr__" "object" := PySem.F.store_ValueError
theorem ini_VE : IniK "ValueError" "ValueError.__init__" where
  plain := F.excBase_ValueError.init.plain
  entry := F.excBase_ValueError.initEntry
  split := F.excBase_ValueError.initSplit
  kind := F.excBase_ValueError.initKind
  row := F.excBase_ValueError.initRow
  noStar := F.excBase_ValueError.noStar
theorem ini_KE : IniK "KeyError" "KeyError.__init__" where
  plain := by decide +kernel
  entry := entryFor_alias (id' := "BaseException.__init__") (by rw [fastTable_eq_tree]; kernel_rfl) (by first | rfl | decide +kernel) (by decide +kernel) (by rw [fastTable_eq_tree]; kernel_rfl)
  split := by kernel_rfl
  kind := by kernel_rfl
  row := by kernel_rfl
  noStar := by decide +kernel
theorem store_KE : StoreFacts "KeyError" keT "object.__setattr__" "object" where
  mro := by kernel_rfl
  slot := .of (owner := "object") (n := "__setattr__") (by rw [typeLookup_type, builtinLookup_eq_fast]; kernel_rfl) (by decide +kernel) (by decide +kernel) (by decide +kernel) (by first | exact .inl (by decide +kernel) | exact .inr (by decide +kernel)) (by rw [isSubtype_type]; kernel_rfl)
  entry := PySem.F.entry_object_sa
  kind := by decide +kernel
  split := by decide +kernel
  hasOwner := by decide +kernel
  args := fun a b c => by unfold argsOk; kernel_rfl
  passes := fun self => by kernel_rfl
theorem ty_KE : typeOf (.type "KeyError") = pure (.type "type") := by kernel_rfl

/-- what an __init__ of these classes does: the one field -/
def spIni (K : PySem.W.Frag) (bmB : List Value) (newId : String) (f : Str) : Sp := fun vs H Q _ => ∃ (a C : Addr) (v : V), vs = [.ref a, v] ∧ ExK K C bmB newId ∧ PySem.W.takerIn K C f = some none ∧ H a = some (exo a C none) ∧
  ∀ d, H d = none → d ≠ a → Q .non (upd (upd H d (exd d [(f, v)])) a (exo a C (some d)))
/-- the written part and the names, for the two bases -/
structure RT (K : PySem.W.Frag) (mg : Str → Option Value) : Prop where
  m : ∃ D, mg "RoundTiesError" = some (.ref D) ∧ PySem.W.specialIn K (.ref D) "__getattribute__" = some (some (.builtin "type.__getattribute__")) ∧ PySem.W.typeIn K (.ref D) = some (.type "type") ∧ PySem.W.readsIn K D (.type "type") = true ∧
    PySem.W.findCls K (.ref D) (.type "type") "__init__" = some (.val (.builtin "ValueError.__init__"))
  k : mg "KeyError" = none
  ki : PySem.W.findCls K (.type "KeyError") (.type "type") "__init__" = some (.val (.builtin "KeyError.__init__"))
theorem ini_read {K : PySem.W.Frag} {bmB : List Value} {newId : String} {f : Str} {a C : Addr} {v : V} {H : Hp} {Q : VK} (T' : ExK K C bmB newId) (hn : PySem.W.takerIn K C f = some none) (ha : H a = some (exo a C none))
    (k : ∀ d, H d = none → d ≠ a → Q .non (upd (upd H d (exd d [(f, v)])) a (exo a C (some d)))) : 
    tSeq (tDrop (tIn K bmB newId (tCons (tVar 0) (tCons (tVar 1) tNil)))) (tSt K bmB newId f (tVar 0) (tVar 1)) { nx := fun _ H' => Q .non H', rt := Q } [some (.ref a), some v] H :=
  ⟨_, rfl, _, rfl, a, C, [v], rfl, (by show 1 ≤ 1000; decide), T', ha, _, rfl, _, rfl, a, C, rfl, T', hn, ha, k⟩
section
variable {P : Program} {w : World} {K : PySem.W.Frag} {mg : Str → Option Value} {base : Heap} {fI : Addr} {fd : FuncData}

theorem sc_4 : FnScope ["self", "path"] ["self", "path"] (defScope (inClass (top 4) 0)) := ⟨rfl, rfl, rfl, by decide +kernel, rfl, by decide +kernel, by decide +kernel⟩
theorem ini_4 (F : Fun K "__init__" "NoPath.__init__" (inClass (top 4) 0) fI fd) (T : RT K mg) : FnOk P w K mg base CX0 1 fI fd ["self", "path"] (spIni K veT "ValueError.__new__" "path") := by
  refine F.ok sc_4 (fun vs H Q E h => ?_) (fun cdv A outer s H vs Q E hr h => ?_)
  · obtain ⟨a, C, v, rfl, _⟩ := h
    rfl
  · obtain ⟨a, C, v, rfl, T', hn, ha, k⟩ := h
    obtain ⟨⟨D, m1, m2, m3, m4, m5⟩, m6, m7⟩ := T
    refine ⟨_, pss_cons (ps_expr (pe_inOwn (newId := "ValueError.__new__") (bmB := veT) (D := D) ini_VE (by decide +kernel) rfl m1 m2 m3 m4 m5 (pa_cons (pv 0) (pa_cons (pv 1) pa_nil)))) (pss_one (ps_st (bmB := veT) (newId := "ValueError.__new__") store_VE (pv 0) (pv 1))), ?_⟩
    exact ini_read T' hn ha k

theorem sc_5 : FnScope ["self", "path"] ["self", "path"] (defScope (inClass (top 5) 0)) := ⟨rfl, rfl, rfl, by decide +kernel, rfl, by decide +kernel, by decide +kernel⟩
theorem ini_5 (F : Fun K "__init__" "UnknownName.__init__" (inClass (top 5) 0) fI fd) (T : RT K mg) : FnOk P w K mg base CX0 1 fI fd ["self", "path"] (spIni K veT "ValueError.__new__" "path") := by
  refine F.ok sc_5 (fun vs H Q E h => ?_) (fun cdv A outer s H vs Q E hr h => ?_)
  · obtain ⟨a, C, v, rfl, _⟩ := h
    rfl
  · obtain ⟨a, C, v, rfl, T', hn, ha, k⟩ := h
    obtain ⟨⟨D, m1, m2, m3, m4, m5⟩, m6, m7⟩ := T
    refine ⟨_, pss_cons (ps_expr (pe_inOwn (newId := "ValueError.__new__") (bmB := veT) (D := D) ini_VE (by decide +kernel) rfl m1 m2 m3 m4 m5 (pa_cons (pv 0) (pa_cons (pv 1) pa_nil)))) (pss_one (ps_st (bmB := veT) (newId := "ValueError.__new__") store_VE (pv 0) (pv 1))), ?_⟩
    exact ini_read T' hn ha k

theorem sc_6 : FnScope ["self", "path"] ["self", "path"] (defScope (inClass (top 6) 0)) := ⟨rfl, rfl, rfl, by decide +kernel, rfl, by decide +kernel, by decide +kernel⟩
theorem ini_6 (F : Fun K "__init__" "UnknownTag.__init__" (inClass (top 6) 0) fI fd) (T : RT K mg) : FnOk P w K mg base CX0 1 fI fd ["self", "path"] (spIni K veT "ValueError.__new__" "path") := by
  refine F.ok sc_6 (fun vs H Q E h => ?_) (fun cdv A outer s H vs Q E hr h => ?_)
  · obtain ⟨a, C, v, rfl, _⟩ := h
    rfl
  · obtain ⟨a, C, v, rfl, T', hn, ha, k⟩ := h
    obtain ⟨⟨D, m1, m2, m3, m4, m5⟩, m6, m7⟩ := T
    refine ⟨_, pss_cons (ps_expr (pe_inOwn (newId := "ValueError.__new__") (bmB := veT) (D := D) ini_VE (by decide +kernel) rfl m1 m2 m3 m4 m5 (pa_cons (pv 0) (pa_cons (pv 1) pa_nil)))) (pss_one (ps_st (bmB := veT) (newId := "ValueError.__new__") store_VE (pv 0) (pv 1))), ?_⟩
    exact ini_read T' hn ha k

theorem sc_7 : FnScope ["self", "path"] ["self", "path"] (defScope (inClass (top 7) 0)) := ⟨rfl, rfl, rfl, by decide +kernel, rfl, by decide +kernel, by decide +kernel⟩
theorem ini_7 (F : Fun K "__init__" "WrongCount.__init__" (inClass (top 7) 0) fI fd) (T : RT K mg) : FnOk P w K mg base CX0 1 fI fd ["self", "path"] (spIni K veT "ValueError.__new__" "path") := by
  refine F.ok sc_7 (fun vs H Q E h => ?_) (fun cdv A outer s H vs Q E hr h => ?_)
  · obtain ⟨a, C, v, rfl, _⟩ := h
    rfl
  · obtain ⟨a, C, v, rfl, T', hn, ha, k⟩ := h
    obtain ⟨⟨D, m1, m2, m3, m4, m5⟩, m6, m7⟩ := T
    refine ⟨_, pss_cons (ps_expr (pe_inOwn (newId := "ValueError.__new__") (bmB := veT) (D := D) ini_VE (by decide +kernel) rfl m1 m2 m3 m4 m5 (pa_cons (pv 0) (pa_cons (pv 1) pa_nil)))) (pss_one (ps_st (bmB := veT) (newId := "ValueError.__new__") store_VE (pv 0) (pv 1))), ?_⟩
    exact ini_read T' hn ha k

theorem sc_8 : FnScope ["self", "path"] ["self", "path"] (defScope (inClass (top 8) 0)) := ⟨rfl, rfl, rfl, by decide +kernel, rfl, by decide +kernel, by decide +kernel⟩
theorem ini_8 (F : Fun K "__init__" "WrongSort.__init__" (inClass (top 8) 0) fI fd) (T : RT K mg) : FnOk P w K mg base CX0 1 fI fd ["self", "path"] (spIni K veT "ValueError.__new__" "path") := by
  refine F.ok sc_8 (fun vs H Q E h => ?_) (fun cdv A outer s H vs Q E hr h => ?_)
  · obtain ⟨a, C, v, rfl, _⟩ := h
    rfl
  · obtain ⟨a, C, v, rfl, T', hn, ha, k⟩ := h
    obtain ⟨⟨D, m1, m2, m3, m4, m5⟩, m6, m7⟩ := T
    refine ⟨_, pss_cons (ps_expr (pe_inOwn (newId := "ValueError.__new__") (bmB := veT) (D := D) ini_VE (by decide +kernel) rfl m1 m2 m3 m4 m5 (pa_cons (pv 0) (pa_cons (pv 1) pa_nil)))) (pss_one (ps_st (bmB := veT) (newId := "ValueError.__new__") store_VE (pv 0) (pv 1))), ?_⟩
    exact ini_read T' hn ha k

theorem sc_9 : FnScope ["self", "path"] ["self", "path"] (defScope (inClass (top 9) 0)) := ⟨rfl, rfl, rfl, by decide +kernel, rfl, by decide +kernel, by decide +kernel⟩
theorem ini_9 (F : Fun K "__init__" "WrongPlace.__init__" (inClass (top 9) 0) fI fd) (T : RT K mg) : FnOk P w K mg base CX0 1 fI fd ["self", "path"] (spIni K veT "ValueError.__new__" "path") := by
  refine F.ok sc_9 (fun vs H Q E h => ?_) (fun cdv A outer s H vs Q E hr h => ?_)
  · obtain ⟨a, C, v, rfl, _⟩ := h
    rfl
  · obtain ⟨a, C, v, rfl, T', hn, ha, k⟩ := h
    obtain ⟨⟨D, m1, m2, m3, m4, m5⟩, m6, m7⟩ := T
    refine ⟨_, pss_cons (ps_expr (pe_inOwn (newId := "ValueError.__new__") (bmB := veT) (D := D) ini_VE (by decide +kernel) rfl m1 m2 m3 m4 m5 (pa_cons (pv 0) (pa_cons (pv 1) pa_nil)))) (pss_one (ps_st (bmB := veT) (newId := "ValueError.__new__") store_VE (pv 0) (pv 1))), ?_⟩
    exact ini_read T' hn ha k

theorem sc_10 : FnScope ["self", "count"] ["self", "count"] (defScope (inClass (top 10) 0)) := ⟨rfl, rfl, rfl, by decide +kernel, rfl, by decide +kernel, by decide +kernel⟩
theorem ini_10 (F : Fun K "__init__" "WrongArguments.__init__" (inClass (top 10) 0) fI fd) (T : RT K mg) : FnOk P w K mg base CX0 1 fI fd ["self", "count"] (spIni K veT "ValueError.__new__" "count") := by
  refine F.ok sc_10 (fun vs H Q E h => ?_) (fun cdv A outer s H vs Q E hr h => ?_)
  · obtain ⟨a, C, v, rfl, _⟩ := h
    rfl
  · obtain ⟨a, C, v, rfl, T', hn, ha, k⟩ := h
    obtain ⟨⟨D, m1, m2, m3, m4, m5⟩, m6, m7⟩ := T
    refine ⟨_, pss_cons (ps_expr (pe_inOwn (newId := "ValueError.__new__") (bmB := veT) (D := D) ini_VE (by decide +kernel) rfl m1 m2 m3 m4 m5 (pa_cons (pv 0) (pa_cons (pv 1) pa_nil)))) (pss_one (ps_st (bmB := veT) (newId := "ValueError.__new__") store_VE (pv 0) (pv 1))), ?_⟩
    exact ini_read T' hn ha k

theorem sc_11 : FnScope ["self", "name"] ["self", "name"] (defScope (inClass (top 11) 0)) := ⟨rfl, rfl, rfl, by decide +kernel, rfl, by decide +kernel, by decide +kernel⟩
theorem ini_11 (F : Fun K "__init__" "NoCertificate.__init__" (inClass (top 11) 0) fI fd) (T : RT K mg) : FnOk P w K mg base CX0 1 fI fd ["self", "name"] (spIni K veT "ValueError.__new__" "name") := by
  refine F.ok sc_11 (fun vs H Q E h => ?_) (fun cdv A outer s H vs Q E hr h => ?_)
  · obtain ⟨a, C, v, rfl, _⟩ := h
    rfl
  · obtain ⟨a, C, v, rfl, T', hn, ha, k⟩ := h
    obtain ⟨⟨D, m1, m2, m3, m4, m5⟩, m6, m7⟩ := T
    refine ⟨_, pss_cons (ps_expr (pe_inOwn (newId := "ValueError.__new__") (bmB := veT) (D := D) ini_VE (by decide +kernel) rfl m1 m2 m3 m4 m5 (pa_cons (pv 0) (pa_cons (pv 1) pa_nil)))) (pss_one (ps_st (bmB := veT) (newId := "ValueError.__new__") store_VE (pv 0) (pv 1))), ?_⟩
    exact ini_read T' hn ha k

theorem sc_12 : FnScope ["self", "name"] ["self", "name"] (defScope (inClass (top 12) 0)) := ⟨rfl, rfl, rfl, by decide +kernel, rfl, by decide +kernel, by decide +kernel⟩
theorem ini_12 (F : Fun K "__init__" "NoRuns.__init__" (inClass (top 12) 0) fI fd) (T : RT K mg) : FnOk P w K mg base CX0 1 fI fd ["self", "name"] (spIni K veT "ValueError.__new__" "name") := by
  refine F.ok sc_12 (fun vs H Q E h => ?_) (fun cdv A outer s H vs Q E hr h => ?_)
  · obtain ⟨a, C, v, rfl, _⟩ := h
    rfl
  · obtain ⟨a, C, v, rfl, T', hn, ha, k⟩ := h
    obtain ⟨⟨D, m1, m2, m3, m4, m5⟩, m6, m7⟩ := T
    refine ⟨_, pss_cons (ps_expr (pe_inOwn (newId := "ValueError.__new__") (bmB := veT) (D := D) ini_VE (by decide +kernel) rfl m1 m2 m3 m4 m5 (pa_cons (pv 0) (pa_cons (pv 1) pa_nil)))) (pss_one (ps_st (bmB := veT) (newId := "ValueError.__new__") store_VE (pv 0) (pv 1))), ?_⟩
    exact ini_read T' hn ha k

theorem sc_13 : FnScope ["self", "call"] ["self", "call"] (defScope (inClass (top 13) 0)) := ⟨rfl, rfl, rfl, by decide +kernel, rfl, by decide +kernel, by decide +kernel⟩
theorem ini_13 (F : Fun K "__init__" "NotPending.__init__" (inClass (top 13) 0) fI fd) (T : RT K mg) : FnOk P w K mg base CX0 1 fI fd ["self", "call"] (spIni K veT "ValueError.__new__" "call") := by
  refine F.ok sc_13 (fun vs H Q E h => ?_) (fun cdv A outer s H vs Q E hr h => ?_)
  · obtain ⟨a, C, v, rfl, _⟩ := h
    rfl
  · obtain ⟨a, C, v, rfl, T', hn, ha, k⟩ := h
    obtain ⟨⟨D, m1, m2, m3, m4, m5⟩, m6, m7⟩ := T
    refine ⟨_, pss_cons (ps_expr (pe_inOwn (newId := "ValueError.__new__") (bmB := veT) (D := D) ini_VE (by decide +kernel) rfl m1 m2 m3 m4 m5 (pa_cons (pv 0) (pa_cons (pv 1) pa_nil)))) (pss_one (ps_st (bmB := veT) (newId := "ValueError.__new__") store_VE (pv 0) (pv 1))), ?_⟩
    exact ini_read T' hn ha k

theorem sc_15 : FnScope ["self", "name"] ["self", "name"] (defScope (inClass (top 15) 0)) := ⟨rfl, rfl, rfl, by decide +kernel, rfl, by decide +kernel, by decide +kernel⟩
theorem ini_15 (F : Fun K "__init__" "NotPlain.__init__" (inClass (top 15) 0) fI fd) (T : RT K mg) : FnOk P w K mg base CX0 1 fI fd ["self", "name"] (spIni K veT "ValueError.__new__" "name") := by
  refine F.ok sc_15 (fun vs H Q E h => ?_) (fun cdv A outer s H vs Q E hr h => ?_)
  · obtain ⟨a, C, v, rfl, _⟩ := h
    rfl
  · obtain ⟨a, C, v, rfl, T', hn, ha, k⟩ := h
    obtain ⟨⟨D, m1, m2, m3, m4, m5⟩, m6, m7⟩ := T
    refine ⟨_, pss_cons (ps_expr (pe_inOwn (newId := "ValueError.__new__") (bmB := veT) (D := D) ini_VE (by decide +kernel) rfl m1 m2 m3 m4 m5 (pa_cons (pv 0) (pa_cons (pv 1) pa_nil)))) (pss_one (ps_st (bmB := veT) (newId := "ValueError.__new__") store_VE (pv 0) (pv 1))), ?_⟩
    exact ini_read T' hn ha k

theorem sc_16 : FnScope ["self", "name"] ["self", "name"] (defScope (inClass (top 16) 0)) := ⟨rfl, rfl, rfl, by decide +kernel, rfl, by decide +kernel, by decide +kernel⟩
theorem ini_16 (F : Fun K "__init__" "NotSimple.__init__" (inClass (top 16) 0) fI fd) (T : RT K mg) : FnOk P w K mg base CX0 1 fI fd ["self", "name"] (spIni K veT "ValueError.__new__" "name") := by
  refine F.ok sc_16 (fun vs H Q E h => ?_) (fun cdv A outer s H vs Q E hr h => ?_)
  · obtain ⟨a, C, v, rfl, _⟩ := h
    rfl
  · obtain ⟨a, C, v, rfl, T', hn, ha, k⟩ := h
    obtain ⟨⟨D, m1, m2, m3, m4, m5⟩, m6, m7⟩ := T
    refine ⟨_, pss_cons (ps_expr (pe_inOwn (newId := "ValueError.__new__") (bmB := veT) (D := D) ini_VE (by decide +kernel) rfl m1 m2 m3 m4 m5 (pa_cons (pv 0) (pa_cons (pv 1) pa_nil)))) (pss_one (ps_st (bmB := veT) (newId := "ValueError.__new__") store_VE (pv 0) (pv 1))), ?_⟩
    exact ini_read T' hn ha k

theorem sc_17 : FnScope ["self", "name"] ["self", "name"] (defScope (inClass (top 17) 0)) := ⟨rfl, rfl, rfl, by decide +kernel, rfl, by decide +kernel, by decide +kernel⟩
theorem ini_17 (F : Fun K "__init__" "NoMaker.__init__" (inClass (top 17) 0) fI fd) (T : RT K mg) : FnOk P w K mg base CX0 1 fI fd ["self", "name"] (spIni K veT "ValueError.__new__" "name") := by
  refine F.ok sc_17 (fun vs H Q E h => ?_) (fun cdv A outer s H vs Q E hr h => ?_)
  · obtain ⟨a, C, v, rfl, _⟩ := h
    rfl
  · obtain ⟨a, C, v, rfl, T', hn, ha, k⟩ := h
    obtain ⟨⟨D, m1, m2, m3, m4, m5⟩, m6, m7⟩ := T
    refine ⟨_, pss_cons (ps_expr (pe_inOwn (newId := "ValueError.__new__") (bmB := veT) (D := D) ini_VE (by decide +kernel) rfl m1 m2 m3 m4 m5 (pa_cons (pv 0) (pa_cons (pv 1) pa_nil)))) (pss_one (ps_st (bmB := veT) (newId := "ValueError.__new__") store_VE (pv 0) (pv 1))), ?_⟩
    exact ini_read T' hn ha k

theorem sc_18 : FnScope ["self", "name"] ["self", "name"] (defScope (inClass (top 18) 0)) := ⟨rfl, rfl, rfl, by decide +kernel, rfl, by decide +kernel, by decide +kernel⟩
theorem ini_18 (F : Fun K "__init__" "NameTaken.__init__" (inClass (top 18) 0) fI fd) (T : RT K mg) : FnOk P w K mg base CX0 1 fI fd ["self", "name"] (spIni K veT "ValueError.__new__" "name") := by
  refine F.ok sc_18 (fun vs H Q E h => ?_) (fun cdv A outer s H vs Q E hr h => ?_)
  · obtain ⟨a, C, v, rfl, _⟩ := h
    rfl
  · obtain ⟨a, C, v, rfl, T', hn, ha, k⟩ := h
    obtain ⟨⟨D, m1, m2, m3, m4, m5⟩, m6, m7⟩ := T
    refine ⟨_, pss_cons (ps_expr (pe_inOwn (newId := "ValueError.__new__") (bmB := veT) (D := D) ini_VE (by decide +kernel) rfl m1 m2 m3 m4 m5 (pa_cons (pv 0) (pa_cons (pv 1) pa_nil)))) (pss_one (ps_st (bmB := veT) (newId := "ValueError.__new__") store_VE (pv 0) (pv 1))), ?_⟩
    exact ini_read T' hn ha k

theorem sc_19 : FnScope ["self", "name"] ["self", "name"] (defScope (inClass (top 19) 0)) := ⟨rfl, rfl, rfl, by decide +kernel, rfl, by decide +kernel, by decide +kernel⟩
theorem ini_19 (F : Fun K "__init__" "NotSteady.__init__" (inClass (top 19) 0) fI fd) (T : RT K mg) : FnOk P w K mg base CX0 1 fI fd ["self", "name"] (spIni K veT "ValueError.__new__" "name") := by
  refine F.ok sc_19 (fun vs H Q E h => ?_) (fun cdv A outer s H vs Q E hr h => ?_)
  · obtain ⟨a, C, v, rfl, _⟩ := h
    rfl
  · obtain ⟨a, C, v, rfl, T', hn, ha, k⟩ := h
    obtain ⟨⟨D, m1, m2, m3, m4, m5⟩, m6, m7⟩ := T
    refine ⟨_, pss_cons (ps_expr (pe_inOwn (newId := "ValueError.__new__") (bmB := veT) (D := D) ini_VE (by decide +kernel) rfl m1 m2 m3 m4 m5 (pa_cons (pv 0) (pa_cons (pv 1) pa_nil)))) (pss_one (ps_st (bmB := veT) (newId := "ValueError.__new__") store_VE (pv 0) (pv 1))), ?_⟩
    exact ini_read T' hn ha k

theorem sc_20 : FnScope ["self", "name"] ["self", "name"] (defScope (inClass (top 20) 0)) := ⟨rfl, rfl, rfl, by decide +kernel, rfl, by decide +kernel, by decide +kernel⟩
theorem ini_20 (F : Fun K "__init__" "NoTest.__init__" (inClass (top 20) 0) fI fd) (T : RT K mg) : FnOk P w K mg base CX0 1 fI fd ["self", "name"] (spIni K veT "ValueError.__new__" "name") := by
  refine F.ok sc_20 (fun vs H Q E h => ?_) (fun cdv A outer s H vs Q E hr h => ?_)
  · obtain ⟨a, C, v, rfl, _⟩ := h
    rfl
  · obtain ⟨a, C, v, rfl, T', hn, ha, k⟩ := h
    obtain ⟨⟨D, m1, m2, m3, m4, m5⟩, m6, m7⟩ := T
    refine ⟨_, pss_cons (ps_expr (pe_inOwn (newId := "ValueError.__new__") (bmB := veT) (D := D) ini_VE (by decide +kernel) rfl m1 m2 m3 m4 m5 (pa_cons (pv 0) (pa_cons (pv 1) pa_nil)))) (pss_one (ps_st (bmB := veT) (newId := "ValueError.__new__") store_VE (pv 0) (pv 1))), ?_⟩
    exact ini_read T' hn ha k

theorem sc_21 : FnScope ["self", "name"] ["self", "name"] (defScope (inClass (top 21) 0)) := ⟨rfl, rfl, rfl, by decide +kernel, rfl, by decide +kernel, by decide +kernel⟩
theorem ini_21 (F : Fun K "__init__" "NoTable.__init__" (inClass (top 21) 0) fI fd) (T : RT K mg) : FnOk P w K mg base CX0 1 fI fd ["self", "name"] (spIni K veT "ValueError.__new__" "name") := by
  refine F.ok sc_21 (fun vs H Q E h => ?_) (fun cdv A outer s H vs Q E hr h => ?_)
  · obtain ⟨a, C, v, rfl, _⟩ := h
    rfl
  · obtain ⟨a, C, v, rfl, T', hn, ha, k⟩ := h
    obtain ⟨⟨D, m1, m2, m3, m4, m5⟩, m6, m7⟩ := T
    refine ⟨_, pss_cons (ps_expr (pe_inOwn (newId := "ValueError.__new__") (bmB := veT) (D := D) ini_VE (by decide +kernel) rfl m1 m2 m3 m4 m5 (pa_cons (pv 0) (pa_cons (pv 1) pa_nil)))) (pss_one (ps_st (bmB := veT) (newId := "ValueError.__new__") store_VE (pv 0) (pv 1))), ?_⟩
    exact ini_read T' hn ha k

theorem sc_22 : FnScope ["self", "name"] ["self", "name"] (defScope (inClass (top 22) 0)) := ⟨rfl, rfl, rfl, by decide +kernel, rfl, by decide +kernel, by decide +kernel⟩
theorem ini_22 (F : Fun K "__init__" "NotSingle.__init__" (inClass (top 22) 0) fI fd) (T : RT K mg) : FnOk P w K mg base CX0 1 fI fd ["self", "name"] (spIni K veT "ValueError.__new__" "name") := by
  refine F.ok sc_22 (fun vs H Q E h => ?_) (fun cdv A outer s H vs Q E hr h => ?_)
  · obtain ⟨a, C, v, rfl, _⟩ := h
    rfl
  · obtain ⟨a, C, v, rfl, T', hn, ha, k⟩ := h
    obtain ⟨⟨D, m1, m2, m3, m4, m5⟩, m6, m7⟩ := T
    refine ⟨_, pss_cons (ps_expr (pe_inOwn (newId := "ValueError.__new__") (bmB := veT) (D := D) ini_VE (by decide +kernel) rfl m1 m2 m3 m4 m5 (pa_cons (pv 0) (pa_cons (pv 1) pa_nil)))) (pss_one (ps_st (bmB := veT) (newId := "ValueError.__new__") store_VE (pv 0) (pv 1))), ?_⟩
    exact ini_read T' hn ha k

theorem sc_24 : FnScope ["self", "name"] ["self", "name"] (defScope (inClass (top 24) 0)) := ⟨rfl, rfl, rfl, by decide +kernel, rfl, by decide +kernel, by decide +kernel⟩
theorem ini_24 (F : Fun K "__init__" "UnknownHole.__init__" (inClass (top 24) 0) fI fd) (T : RT K mg) : FnOk P w K mg base CX0 1 fI fd ["self", "name"] (spIni K veT "ValueError.__new__" "name") := by
  refine F.ok sc_24 (fun vs H Q E h => ?_) (fun cdv A outer s H vs Q E hr h => ?_)
  · obtain ⟨a, C, v, rfl, _⟩ := h
    rfl
  · obtain ⟨a, C, v, rfl, T', hn, ha, k⟩ := h
    obtain ⟨⟨D, m1, m2, m3, m4, m5⟩, m6, m7⟩ := T
    refine ⟨_, pss_cons (ps_expr (pe_inOwn (newId := "ValueError.__new__") (bmB := veT) (D := D) ini_VE (by decide +kernel) rfl m1 m2 m3 m4 m5 (pa_cons (pv 0) (pa_cons (pv 1) pa_nil)))) (pss_one (ps_st (bmB := veT) (newId := "ValueError.__new__") store_VE (pv 0) (pv 1))), ?_⟩
    exact ini_read T' hn ha k

theorem sc_26 : FnScope ["self", "side"] ["self", "side"] (defScope (inClass (top 26) 0)) := ⟨rfl, rfl, rfl, by decide +kernel, rfl, by decide +kernel, by decide +kernel⟩
theorem ini_26 (F : Fun K "__init__" "NoSide.__init__" (inClass (top 26) 0) fI fd) (T : RT K mg) : FnOk P w K mg base CX0 1 fI fd ["self", "side"] (spIni K veT "ValueError.__new__" "side") := by
  refine F.ok sc_26 (fun vs H Q E h => ?_) (fun cdv A outer s H vs Q E hr h => ?_)
  · obtain ⟨a, C, v, rfl, _⟩ := h
    rfl
  · obtain ⟨a, C, v, rfl, T', hn, ha, k⟩ := h
    obtain ⟨⟨D, m1, m2, m3, m4, m5⟩, m6, m7⟩ := T
    refine ⟨_, pss_cons (ps_expr (pe_inOwn (newId := "ValueError.__new__") (bmB := veT) (D := D) ini_VE (by decide +kernel) rfl m1 m2 m3 m4 m5 (pa_cons (pv 0) (pa_cons (pv 1) pa_nil)))) (pss_one (ps_st (bmB := veT) (newId := "ValueError.__new__") store_VE (pv 0) (pv 1))), ?_⟩
    exact ini_read T' hn ha k

theorem sc_27 : FnScope ["self", "name"] ["self", "name"] (defScope (inClass (top 27) 0)) := ⟨rfl, rfl, rfl, by decide +kernel, rfl, by decide +kernel, by decide +kernel⟩
theorem ini_27 (F : Fun K "__init__" "UnknownFunction.__init__" (inClass (top 27) 0) fI fd) (T : RT K mg) : FnOk P w K mg base CX0 1 fI fd ["self", "name"] (spIni K keT "LookupError.__new__" "name") := by
  refine F.ok sc_27 (fun vs H Q E h => ?_) (fun cdv A outer s H vs Q E hr h => ?_)
  · obtain ⟨a, C, v, rfl, _⟩ := h
    rfl
  · obtain ⟨a, C, v, rfl, T', hn, ha, k⟩ := h
    obtain ⟨⟨D, m1, m2, m3, m4, m5⟩, m6, m7⟩ := T
    refine ⟨_, pss_cons (ps_expr (pe_inBlt (newId := "LookupError.__new__") (bmB := keT) ini_KE (by decide +kernel) rfl m6 PyProof.Rows.Boot.«KeyError» ty_KE (by decide +kernel) m7 (pa_cons (pv 0) (pa_cons (pv 1) pa_nil)))) (pss_one (ps_st (bmB := keT) (newId := "LookupError.__new__") store_KE (pv 0) (pv 1))), ?_⟩
    exact ini_read T' hn ha k

theorem sc_28 : FnScope ["self", "name"] ["self", "name"] (defScope (inClass (top 28) 0)) := ⟨rfl, rfl, rfl, by decide +kernel, rfl, by decide +kernel, by decide +kernel⟩
theorem ini_28 (F : Fun K "__init__" "UnknownItem.__init__" (inClass (top 28) 0) fI fd) (T : RT K mg) : FnOk P w K mg base CX0 1 fI fd ["self", "name"] (spIni K keT "LookupError.__new__" "name") := by
  refine F.ok sc_28 (fun vs H Q E h => ?_) (fun cdv A outer s H vs Q E hr h => ?_)
  · obtain ⟨a, C, v, rfl, _⟩ := h
    rfl
  · obtain ⟨a, C, v, rfl, T', hn, ha, k⟩ := h
    obtain ⟨⟨D, m1, m2, m3, m4, m5⟩, m6, m7⟩ := T
    refine ⟨_, pss_cons (ps_expr (pe_inBlt (newId := "LookupError.__new__") (bmB := keT) ini_KE (by decide +kernel) rfl m6 PyProof.Rows.Boot.«KeyError» ty_KE (by decide +kernel) m7 (pa_cons (pv 0) (pa_cons (pv 1) pa_nil)))) (pss_one (ps_st (bmB := keT) (newId := "LookupError.__new__") store_KE (pv 0) (pv 1))), ?_⟩
    exact ini_read T' hn ha k
end
end K68
namespace K68
open PySem PySem.Spec PyProof.Rows L2 Gd Ex
abbrev sDeck : Stmt := top 30
abbrev sDraw : Stmt := top 31
abbrev sPick : Stmt := top 32
abbrev sOdd : Stmt := top 33
abbrev sMade : Stmt := top 34
abbrev sNamed : Stmt := top 35
abbrev sCarried : Stmt := top 36
abbrev sKinds : Stmt := top 37
abbrev sRight : Stmt := top 38
abbrev sLaw : Stmt := top 39

/-! ### the random source -/
theorem cutV_to {xs : List V} (n : Nat) (h : xs.length ≤ n) : cutV xs none (some (n : Int)) = xs := by
  unfold cutV
  rw [HT.sIx_none, HT.sIx_nat, List.drop_zero, Nat.min_eq_right h]
  exact List.take_of_length_le (by omega)
theorem upd_none {H : Hp} {a b : Addr} {o : HO} (h : upd H a o b = none) : b ≠ a ∧ H b = none := by
  by_cases e : b = a
  · rw [e, upd_same] at h
    cases h
  · rw [upd_ne e] at h
    exact ⟨e, h⟩
theorem same_new {H : Hp} {a : Addr} {o : HO} (h : H a = none) : L2.Same H (upd H a o) := fun b u e => by rw [upd_ne (ne_of_none e h)]; exact e

/-- all but p and q is as it was -/
def Off (p q : Addr) (H H' : Hp) : Prop := ∀ b o, b ≠ p → b ≠ q → H b = some o → H' b = some o
theorem Off.refl (p q : Addr) (H : Hp) : Off p q H H := fun _ _ _ _ h => h
theorem Off.trans {p q : Addr} {H H1 H2 : Hp} (a : Off p q H H1) (b : Off p q H1 H2) : Off p q H H2 := fun c o h1 h2 h => b c o h1 h2 (a c o h1 h2 h)
theorem Off.of {p q : Addr} {H H' : Hp} (s : L2.Same H H') : Off p q H H' := fun b o _ _ h => s b o h
def DeckAt (H : Hp) (p q : Addr) (cs : List Int) (t k : Int) : Prop := H p = some (.lst [.ref q, .int t, .int k]) ∧ H q = some (.lst (cs.map V.int)) ∧ 0 ≤ t ∧ t < 2147483629 ∧ 0 ≤ k ∧ cs.length ≤ 63 ∧ p ≠ q
/-- a source, k draws at most so far -/
def Deck (H : Hp) (p q : Addr) (k : Int) : Prop := ∃ cs t j, DeckAt H p q cs t j ∧ j ≤ k
theorem Deck.same {H H' : Hp} {p q : Addr} {k : Int} (d : Deck H p q k) (s : L2.Same H H') : Deck H' p q k := by
  obtain ⟨cs, t, j, ⟨h1, h2, r⟩, hj⟩ := d
  exact ⟨cs, t, j, ⟨s _ _ h1, s _ _ h2, r⟩, hj⟩
def spDeck (K : PySem.W.Frag) : Sp := fun vs H Q _ => ∃ (a : Addr) (ns : List Int), vs = [.ref a] ∧ SqL K H a (ns.map V.int) ∧ ns.length ≤ 63 ∧ ∀ p q H', L2.Same H H' → H p = none → H q = none → Deck H' p q 0 → Q (.ref p) H'
def spDraw : Sp := fun vs H Q _ => ∃ (p q : Addr) (k n : Int), vs = [.ref p, .int n] ∧ Deck H p q k ∧ k ≤ 100000 ∧ 1 ≤ n ∧ n < 1073741824 ∧ ∀ r H', 0 ≤ r → r < n → Off p q H H' → Deck H' p q (k + 1) → Q (.int r) H'
def spPick (K : PySem.W.Frag) : Sp := fun vs H Q _ => ∃ (p q a : Addr) (k : Int) (xs : List V), vs = [.ref p, .ref a] ∧ Deck H p q k ∧ k ≤ 100000 ∧ H a = some (.lst xs) ∧ a ≠ p ∧ a ≠ q ∧ xs ≠ [] ∧ xs.length ≤ 1000 ∧
  ∀ x H', x ∈ xs → Off p q H H' → Deck H' p q (k + 1) → Q x H'
structure Tn (mg : Str → Option Value) : Prop where
  list : mg "list" = none
  len : mg "len" = none
section
variable {P : Program} {w : World} {K : PySem.W.Frag} {mg : Str → Option Value} {base : Heap} {f : Addr} {fd : FuncData}
theorem scDeck : FnScope ["script", "cells", "total", "cell"] ["script"] (defScope sDeck) := ⟨rfl, rfl, rfl, by decide +kernel, rfl, by decide +kernel, by decide +kernel⟩
theorem ok_deck (F : Fun K "_law_deck" "_law_deck" sDeck f fd) (T : Tn mg) : FnG P w K mg base 1 f fd ["script"] (spDeck K) := by
  refine .ofBody F scDeck (fun vs H Q h => ?_) (fun cdv A outer s H vs Q hg hr h => ?_)
  · obtain ⟨a, ns, rfl, _⟩ := h
    rfl
  · obtain ⟨a, ns, rfl, hS, hl, k⟩ := h
    refine ⟨_, pss_cons (ps_par (i := 1) (j := 2) (by rfl) scDeck.nd rfl rfl (by decide) rfl rfl (pa_cons (pe_callTy call_list_of (by rfl) T.list (by decide +kernel) (pa_cons (pe_slice sl_list (pv 0) po_none (po_some pe_int)) pa_nil)) (pa_cons pe_int pa_nil)) (by rfl))
      (pss_cons (ps_for PassesOwn.never rfl (pi_list (pv 1)) (pg_name (i := 3) scDeck.nd rfl (.inl rfl))
        (pss_one (ps_set (i := 2) scDeck.nd rfl (.inl rfl) (pe_op op_modN (pe_op op_add (pe_op op_add (pe_op op_mul (pv 2) pe_int) (pe_op op_modN (pv 3) pe_int)) pe_int) pe_int))))
      (pss_one (ps_ret (pe_lst (pa_cons (pe_revL (pv 1)) (pa_cons (pv 2) (pa_cons pe_int pa_nil))))))), ?_⟩
    refine ⟨_, rfl, _, rfl, a, ns.map V.int, rfl, hS, fun l1 h1 => ⟨l1, _, rfl, .inl (SqL.of upd_same), fun l2 h2 => ⟨_, _, rfl, ?_⟩⟩⟩
    have e63 : cutV (ns.map V.int) none (some 63) = ns.map V.int := by
      exact cutV_to 63 (by rw [List.length_map]; exact hl)
    rw [e63] at h2 ⊢
    obtain ⟨n12, h2'⟩ := upd_none h2
    refine ⟨_, rfl, l2, rfl, ⟨_, SqL.of upd_same⟩, for_list (K := K) (a := l2) (xs := ns.map V.int) (fun i σ H' => ∃ (t : Int) (v : Option V), σ = [some (.ref a), some (.ref l2), some (.int t), v] ∧ 0 ≤ t ∧ t < 2147483629 ∧ H' = upd (upd H l1 (.lst (ns.map V.int))) l2 (.lst (ns.map V.int)))
      ⟨_, _, rfl, by decide, by decide, rfl⟩ (fun i σ H' _ ⟨_, _, _, _, _, e⟩ => by rw [e]; exact SqL.of upd_same) ?_ ?_⟩
    · rintro i y σ H' hi ⟨t, v, rfl, t0, t1, rfl⟩
      obtain ⟨c, rfl⟩ : ∃ c, y = V.int c := by
        rw [List.getElem?_map] at hi
        cases e : ns[i]? with
        | none =>
          rw [e] at hi
          cases hi
        | some u =>
          rw [e] at hi
          exact ⟨u, (Option.some.inj hi).symm⟩
      refine ⟨_, rfl, _, _, rfl, rfl, .inl ⟨by omega, by omega⟩, _, rfl, _, _, rfl, rfl, (by show (2147483587 : Int) ≠ 0; decide), _, _, rfl, rfl, _, _, rfl, rfl, _, _, rfl, rfl, (by show (2147483629 : Int) ≠ 0; decide), ?_⟩
      exact ⟨_, _, rfl, Int.fmod_nonneg_of_pos _ (by decide), Int.fmod_lt_of_pos _ (by decide), rfl⟩
    · rintro σ H' ⟨t, v, rfl, t0, t1, rfl⟩
      refine ⟨_, rfl, l2, _, rfl, SqL.of upd_same, fun l3 h3 => ⟨_, rfl, by show 3 ≤ sizeLine; decide, fun l4 h4 => ?_⟩⟩
      obtain ⟨n43, h4'⟩ := upd_none h4
      obtain ⟨n42, h4'⟩ := upd_none h4'
      obtain ⟨n41, h4'⟩ := upd_none h4'
      obtain ⟨_, h3'⟩ := upd_none h3
      obtain ⟨_, h3'⟩ := upd_none h3'
      refine k l4 l3 _ ((same_new h1).trans ((same_new h2).trans ((same_new h3).trans (same_new h4)))) h4' h3' ⟨ns.reverse, t, 0, ⟨upd_same, ?_, t0, t1, by decide, by rw [List.length_reverse]; exact hl, n43⟩, by decide⟩
      rw [upd_ne n43.symm, upd_same, List.map_reverse]
end
end K68
namespace K68
open PySem PySem.Spec PyProof.Rows L2 Gd Ex
/-! ### lists of ints, of truth values, compared -/
theorem dpInts {K : PySem.W.Frag} {H : Hp} : ∀ ns : List Int, DpAll K H (ns.map V.int) (ns.map PyData.int)
  | [] => .nil
  | n :: r => .cons (.int n) (dpInts r)
theorem dpBls {K : PySem.W.Frag} {H : Hp} : ∀ ns : List Bool, DpAll K H (ns.map V.bl) (ns.map PyData.bool)
  | [] => .nil
  | n :: r => .cons (.bl n) (dpBls r)
theorem flat_shaped {ds : List PyData} (h : ∀ d ∈ ds, d.canLay0 = true ∧ d.depth = 0) : SeqAt.shaped (.list ds) = true := by
  have h1 : PyData.canLayAll0 ds = true := by
    induction ds with
    | nil => rfl
    | cons d r ih =>
      unfold PyData.canLayAll0
      rw [(h d List.mem_cons_self).1, ih fun x hx => h x (List.mem_cons_of_mem _ hx)]
      rfl
  have h2 : PyData.depthAll ds = 0 := by
    induction ds with
    | nil => rfl
    | cons d r ih =>
      unfold PyData.depthAll
      rw [(h d List.mem_cons_self).2, ih (fun x hx => h x (List.mem_cons_of_mem _ hx)) (by
        unfold PyData.canLayAll0 at h1
        exact (Bool.and_eq_true_iff.mp h1).2)]
      rfl
  unfold SeqAt.shaped PyData.canLay0 PyData.depth
  rw [h1, h2]
  rfl
theorem sh_ints (ns : List Int) : SeqAt.shaped (.list (ns.map PyData.int)) = true := flat_shaped fun d h => by
  obtain ⟨n, _, rfl⟩ := List.mem_map.mp h
  exact ⟨rfl, rfl⟩
theorem sh_bls (ns : List Bool) : SeqAt.shaped (.list (ns.map PyData.bool)) = true := flat_shaped fun d h => by
  obtain ⟨n, _, rfl⟩ := List.mem_map.mp h
  exact ⟨rfl, rfl⟩
theorem eqv_nil (ds : List PyData) : PyData.eqv (.list ds) (.list []) = ds.isEmpty := by
  cases ds <;> rfl
end K68
namespace K68
open PySem PySem.Spec PyProof.Rows L2 Gd Ex
section
variable {P : Program} {w : World} {K : PySem.W.Frag} {mg : Str → Option Value} {base : Heap} {f : Addr} {fd : FuncData}
theorem cut_int {G : V → Hp → Prop} {H : Hp} (i : Int) (h : ∀ u, u = i → G (.int u) H) : G (.int i) H := h i rfl
theorem cut_heap {G : Hp → Prop} (H : Hp) (h : ∀ H1, H1 = H → G H1) : G H := h H rfl
theorem nil_or_snoc {α : Type} (l : List α) : l = [] ∨ ∃ a b, l = a ++ [b] := by
  rcases List.eq_nil_or_concat l with h | ⟨a, b, h⟩
  · exact .inl h
  · exact .inr ⟨a, b, by rw [h, List.concat_eq_append]⟩
theorem draw_pow : (10 : Int) ^ (18 : Int).toNat = 1000000000000000000 := by decide
theorem scDraw : FnScope ["deck", "limit", "cell", "number"] ["deck", "limit"] (defScope sDraw) := ⟨rfl, rfl, rfl, by decide +kernel, rfl, by decide +kernel, by decide +kernel⟩
theorem atI0 (xs : List V) (x : V) (r : xs[0]? = some x) : atI xs 0 = some x := atI_nat r
theorem ok_draw (F : Fun K "_law_draw" "_law_draw" sDraw f fd) : FnG P w K mg base 1 f fd ["deck", "limit"] spDraw := by
  refine .ofBody F scDraw (fun vs H Q h => ?_) (fun cdv A outer s H vs Q hg hr h => ?_)
  · obtain ⟨p, q, k, n, rfl, _⟩ := h
    rfl
  · obtain ⟨p, q, k, n, rfl, ⟨cs, t, j, ⟨hp, hq, t0, t1, j0, hl, hpq⟩, hj⟩, hk, n1, n2, kk⟩ := h
    refine ⟨_, pss_cons (ps_asg (pe_op op_add (pe_ix ix_list (pv 0) pe_int (fun _ _ => rfl)) pe_int) (pg_sub (pv 0) pe_int set_list))
      (pss_cons (ps_set (i := 2) scDraw.nd rfl (.inl rfl) (pe_ix ix_list (pv 0) pe_int (fun _ _ => rfl)))
      (C8.pss_cut (ps_if (pt_cmpR (op_neD hr.units) (pe_ix ix_list (pv 0) pe_int (fun _ _ => rfl)) (pe_lst pa_nil) (nomark _))
          (pss_cons (ps_set (i := 2) scDraw.nd rfl (.inl rfl) (pe_bm0 PySem.F.plainAttrs_list PySem.F.slot_list_pop PySem.F.type_list_pop mt_pop (pe_ix ix_list (pv 0) pe_int (fun _ _ => rfl))))
          (pss_cons (ps_if (pt_cmpR op_ge (pv 2) (pe_op op_pow pe_int pe_int) (nomark _))
              (pss_cons (ps_expr (pe_bm PySem.F.plainAttrs_list PySem.F.slot_list_append PySem.F.type_list_append mt_append (pe_ix ix_list (pv 0) pe_int (fun _ _ => rfl)) (pa_cons (pe_op op_fdivN (pv 2) (pv 1)) pa_nil)))
              (pss_one (ps_ret (pe_op op_modN (pv 2) (pv 1))))) pss_nil)
          (pss_one (ps_set (i := 2) scDraw.nd rfl (.inl rfl) (pe_op op_add (pv 2) (pe_ix ix_list (pv 0) pe_int (fun _ _ => rfl)))))))
          pss_nil)
      (C8.pss_cut (ps_set (i := 3) scDraw.nd rfl (.inl rfl) (pe_op op_modN (pe_op op_mul (pe_op op_add (pe_op op_add (pe_op op_modN (pv 2) pe_int) (pe_op op_mul (pe_op op_mul pe_int (pe_ix ix_list (pv 0) pe_int (fun _ _ => rfl))) (pe_ix ix_list (pv 0) pe_int (fun _ _ => rfl)))) pe_int) pe_int) pe_int))
      (C8.pss_cut (ps_set (i := 3) scDraw.nd rfl (.inl rfl) (pe_op op_modN (pe_op op_add (pe_op op_add (pe_op op_mul (pv 3) (pv 3)) (pe_op op_mul pe_int (pe_ix ix_list (pv 0) pe_int (fun _ _ => rfl)))) pe_int) pe_int))
      (pss_one (ps_ret (pe_op op_modN (pe_op op_fdivN (pe_op op_modN (pe_op op_add (pe_op op_mul (pv 3) (pv 3)) (pe_op op_mul pe_int (pv 3))) pe_int) pe_int) (pv 1)))))))), ?_⟩
    -- deck[2] = deck[2] + 1
    have i2 : atI [V.ref q, V.int t, V.int j] 2 = some (.int j) := atI_nat (j := 2) rfl
    refine ⟨_, rfl, p, _, _, _, rfl, rfl, SqL.of hp, i2, _, _, rfl, rfl, _, rfl, p, _, 2, 2, rfl, rfl, hp, rfl, ?_⟩
    -- cell = deck[1]
    have hp1 : upd H p (.lst [.ref q, .int t, .int (j + 1)]) p = some (.lst [.ref q, .int t, .int (j + 1)]) := upd_same
    have hq1 : upd H p (.lst [.ref q, .int t, .int (j + 1)]) q = some (.lst (cs.map V.int)) := by rw [upd_ne hpq.symm]; exact hq
    have off1 : Off p q H (upd H p (.lst [.ref q, .int t, .int (j + 1)])) := fun b o h1 _ e => by rw [upd_ne h1]; exact e
    refine cut_heap (upd H p (.lst [.ref q, .int t, .int (j + 1)])) (fun H1 hH1 => ?_)
    rw [← hH1] at hp1 hq1 off1
    have j0' : atI [V.ref q, V.int t, V.int (j + 1)] 0 = some (.ref q) := atI_nat (j := 0) rfl
    have j1' : atI [V.ref q, V.int t, V.int (j + 1)] 1 = some (.int t) := atI_nat (j := 1) rfl
    have j2' : atI [V.ref q, V.int t, V.int (j + 1)] 2 = some (.int (j + 1)) := atI_nat (j := 2) rfl
    refine ⟨_, rfl, p, _, _, _, rfl, rfl, SqL.of hp1, j1', ?_⟩
    -- what follows the if
    refine ⟨fun σ' H' => ∃ (c : Int) (cs' : List Int) (v : Option V), σ' = [some (.ref p), some (.int n), some (.int c), v] ∧ H' p = some (.lst [.ref q, .int t, .int (j + 1)]) ∧ H' q = some (.lst (cs'.map V.int)) ∧ cs'.length ≤ 63 ∧ Off p q H H', ?_, ?_⟩
    · -- if deck[0] != []
      refine ⟨_, rfl, p, _, _, _, rfl, rfl, SqL.of hp1, j0', Nat.zero_le _, fun e he => ?_⟩
      have ne_p : p ≠ e := ne_of_none hp1 he
      have ne_q : q ≠ e := ne_of_none hq1 he
      have hp2 : upd H1 e (.lst []) p = some (.lst [.ref q, .int t, .int (j + 1)]) := by rw [upd_ne ne_p]; exact hp1
      have hq2 : upd H1 e (.lst []) q = some (.lst (cs.map V.int)) := by rw [upd_ne ne_q]; exact hq1
      have he2 : upd H1 e (.lst []) e = some (.lst []) := upd_same
      have off2 : Off p q H (upd H1 e (.lst [])) := off1.trans (.of (same_new he))
      refine cut_heap (upd H1 e (.lst [])) (fun H2 hH2 => ?_)
      rw [← hH2] at hp2 hq2 he2 off2
      refine ⟨_, _, .lst (SqL.of hq2) (dpInts cs), .lst (SqL.of he2) .nil, sh_ints cs, rfl, _, rfl, ?_⟩
      rw [eqv_nil, List.isEmpty_map]
      rcases nil_or_snoc cs with rfl | ⟨cs', c, rfl⟩
      · exact iteF ⟨t, [], none, rfl, hp2, hq2, by decide, off2⟩
      · have ne : (!(cs' ++ [c]).isEmpty) = true := by simp
        rw [ne]
        refine iteT ?_
        have hl' : cs'.length ≤ 62 := by
          rw [List.length_append, List.length_singleton] at hl
          omega
        rw [List.map_append] at hq2
        refine ⟨_, rfl, p, _, _, _, rfl, rfl, SqL.of hp2, j0', .inl ⟨rfl, _, SqL.of hq2⟩, q, _, .int c, rfl, rfl, hq2, by simp, ?_⟩
        rw [List.map_singleton, List.dropLast_concat]
        have hp3 : upd H2 q (.lst (cs'.map V.int)) p = some (.lst [.ref q, .int t, .int (j + 1)]) := by rw [upd_ne hpq]; exact hp2
        have hq3 : upd H2 q (.lst (cs'.map V.int)) q = some (.lst (cs'.map V.int)) := upd_same
        have off3 : Off p q H (upd H2 q (.lst (cs'.map V.int))) := fun b o h1 h2 e => by rw [upd_ne h2]; exact off2 b o h1 h2 e
        refine cut_heap (upd H2 q (.lst (cs'.map V.int))) (fun H3 hH3 => ?_)
        rw [← hH3] at hp3 hq3 off3
        refine ⟨_, rfl, _, _, rfl, rfl, (by show (0 : Int) ≤ 18 ∧ (18 : Int) ≤ 1000000 ∧ (10 : Int).natAbs < 2 ^ 64; decide), _, _, rfl, rfl, _, rfl, ?_⟩
        refine ite2 (fun _ => ?_) (fun _ => ?_)
        · refine ⟨_, rfl, p, _, _, _, rfl, rfl, SqL.of hp3, j0', .inl ⟨rfl, _, SqL.of hq3⟩, _, rfl, _, rfl, c, n, rfl, rfl, (by show n ≠ 0 ∧ n.natAbs < 1073741824; omega), q, _, _, rfl, rfl, hq3, (by rw [List.length_map]; exact small1000 (by omega)), ?_⟩
          refine ⟨_, rfl, _, rfl, c, n, rfl, rfl, (by show n ≠ 0; omega), ?_⟩
          refine kk _ _ (Int.fmod_nonneg_of_pos _ (by omega)) (Int.fmod_lt_of_pos _ (by omega)) (fun b o h1 h2 e => by rw [upd_ne h2]; exact off3 b o h1 h2 e) ⟨cs' ++ [c.fdiv n], t, j + 1, ⟨by rw [upd_ne hpq]; exact hp3, by rw [upd_same, List.map_append]; rfl, t0, t1, by omega, by rw [List.length_append, List.length_singleton]; omega, hpq⟩, by omega⟩
        · refine ⟨_, rfl, _, rfl, p, _, _, _, rfl, rfl, SqL.of hp3, j1', _, _, rfl, rfl, ?_⟩
          exact ⟨c + t, cs', none, rfl, hp3, hq3, by omega, off3⟩
    · rintro σ' H3 ⟨c, cs', v, rfl, hp3, hq3, hl3, off3⟩
      refine ⟨fun σ' H' => ∃ u : Int, σ' = [some (.ref p), some (.int n), some (.int c), some (.int u)] ∧ 0 ≤ u ∧ u < 2147483647 ∧ H' = H3, ?_, ?_⟩
      · refine ⟨_, rfl, _, _, rfl, rfl, (by show (2147483587 : Int) ≠ 0; decide), _, rfl, p, _, _, _, rfl, rfl, SqL.of hp3, j2', _, _, rfl, rfl, .inl ⟨by decide, by decide⟩, _, rfl, p, _, _, _, rfl, rfl, SqL.of hp3, j2', _, _, rfl, rfl, .inl ⟨by omega, by omega⟩, _, _, rfl, rfl, _, _, rfl, rfl, _, _, rfl, rfl, .inr ⟨by decide, by decide⟩, _, _, rfl, rfl, (by show (2147483647 : Int) ≠ 0; decide), ?_⟩
        exact ⟨_, rfl, Int.fmod_nonneg_of_pos _ (by decide), Int.fmod_lt_of_pos _ (by decide), rfl⟩
      · rintro σ' H4 ⟨u, rfl, u0, u1, rfl⟩
        refine ⟨fun σ' H'' => ∃ x : Int, σ' = [some (.ref p), some (.int n), some (.int c), some (.int x)] ∧ 0 ≤ x ∧ x < 2147483563 ∧ H'' = H4, ?_, ?_⟩
        · refine ⟨_, rfl, _, rfl, _, _, rfl, rfl, .inl ⟨by omega, by omega⟩, _, rfl, p, _, _, _, rfl, rfl, SqL.of hp3, j2', _, _, rfl, rfl, .inl ⟨by decide, by decide⟩, _, _, rfl, rfl, _, _, rfl, rfl, _, _, rfl, rfl, (by show (2147483563 : Int) ≠ 0; decide), ?_⟩
          exact ⟨_, rfl, Int.fmod_nonneg_of_pos _ (by decide), Int.fmod_lt_of_pos _ (by decide), rfl⟩
        · rintro σ' H5 ⟨x, rfl, x0, x1, rfl⟩
          refine ⟨_, rfl, _, rfl, _, _, rfl, rfl, .inl ⟨by omega, by omega⟩, _, rfl, _, _, rfl, rfl, .inl ⟨by decide, by decide⟩, _, _, rfl, rfl, _, _, rfl, rfl, (by show (2147483629 : Int) ≠ 0; decide), _, _, rfl, rfl, (by show (128 : Int) ≠ 0 ∧ (128 : Int).natAbs < 1073741824; decide), _, rfl, _, _, rfl, rfl, (by show n ≠ 0; omega), ?_⟩
          exact kk _ _ (Int.fmod_nonneg_of_pos _ (by omega)) (Int.fmod_lt_of_pos _ (by omega)) off3 ⟨cs', t, j + 1, ⟨hp3, hq3, t0, t1, by omega, hl3, hpq⟩, by omega⟩
end
end K68
namespace K68
open PySem PySem.Spec PyProof.Rows L2 Gd Ex Dt
section
variable {P : Program} {w : World} {K : PySem.W.Frag} {mg : Str → Option Value} {base : Heap} {f : Addr} {fd : FuncData}
theorem scPick : FnScope ["deck", "items"] ["deck", "items"] (defScope sPick) := ⟨rfl, rfl, rfl, by decide +kernel, rfl, by decide +kernel, by decide +kernel⟩
/-- what a caller must know of a def -/
structure Cal (P : Program) (w : World) (K : PySem.W.Frag) (mg : Str → Option Value) (base : Heap) (k : Nat) (x : Str) (ps : List Str) (sp : Sp) (f : Addr) (fd : FuncData) : Prop where
  ok : FnG P w K mg base k f fd ps sp
  g : mg x = some (.ref f)
  kp : PySem.W.keepIn K (.ref f) = true
  b : L2.Binds K fd ps []
theorem ok_pick (F : Fun K "_law_pick" "_law_pick" sPick f fd) {fD : Addr} {fdD : FuncData} (D : Cal P w K mg base 1 "_law_draw" ["deck", "limit"] spDraw fD fdD) (T : Tn mg) : FnG P w K mg base 2 f fd ["deck", "items"] (spPick K) := by
  refine .ofBody F scPick (fun vs H Q h => ?_) (fun cdv A outer s H vs Q hg hr h => ?_)
  · obtain ⟨p, q, a, k, xs, rfl, _⟩ := h
    rfl
  · obtain ⟨p, q, a, k, xs, rfl, hd, hk, ha, n1, n2, ne, hl, kk⟩ := h
    refine ⟨_, pss_one (ps_ret (pe_ix ix_list (pv 1) (pe_callG D.ok hr hg rfl D.g D.kp D.b (pa_cons (pv 0) (pa_cons (pe_callB call_len_seq (by rfl) T.len PySem.boot_len (pa_cons (pv 1) pa_nil)) pa_nil))) (fun _ _ => rfl))), ?_⟩
    have pos : 0 < xs.length := List.length_pos_iff.mpr ne
    refine ⟨_, rfl, _, rfl, _, rfl, a, _, rfl, .inl (SqL.of ha), p, q, k, _, rfl, hd, hk, by omega, by omega, fun r H' r0 r1 off hd' => ?_⟩
    obtain ⟨j, rfl⟩ : ∃ j : Nat, r = (j : Int) := ⟨r.toNat, by omega⟩
    have hj : j < xs.length := by omega
    refine ⟨a, xs, _, xs[j], rfl, rfl, SqL.of (off _ _ n1 n2 ha), atI_nat (by rw [List.getElem?_eq_getElem hj]), ?_⟩
    exact kk _ _ (List.getElem_mem hj) off hd'
end
/-! ### the values that an error may carry -/
def x2000 : Str := Txt.mul "x" 2000
def oddA : List PyData := [.str "cons", .str "", .str "a b", .tuple [], .tuple [.int 0], .tuple [.int 1, .int 0, .int 1, .int 0, .int 3], .int 0, .int 7, .int (-1), .int (10 ^ 39), .none, .bool true, .list [.int 0], .dict [(.str "a", .int 0)], .tuple [.str "f", .tuple []]]
def oddB : List PyData := [.tuple [.str "some", .tuple [.tuple [.tuple [.str "cons", .tuple [.int 0, .int 0]]]]], .list [.str "x", .list [.str "y"]], .str x2000]
def Good (d : PyData) : Prop := d.showable = true ∧ d.depth ≤ 60 ∧ d.shown.length ≤ sizeLine ∧ (d.hasDict = true → noL d = true)
theorem fold_arr : ∀ (l : List (Array Nat)) (acc : Array Nat), (l.foldl (· ++ ·) acc).toList = acc.toList ++ (l.map Array.toList).flatten
  | [], acc => by simp
  | a :: r, acc => by
    rw [List.foldl_cons, fold_arr r]
    simp [List.append_assoc]
theorem x2000_list : x2000.cps.toList = List.replicate 2000 120 := by
  have e : x2000.cps = (List.replicate 2000 (#[120] : Array Nat)).foldl (· ++ ·) #[] := by
    unfold x2000 Txt.mul
    rw [if_neg (by decide), if_neg (by decide +kernel)]
    rfl
  rw [e, fold_arr]
  have h : ∀ n : Nat, ((List.replicate n (#[120] : Array Nat)).map Array.toList).flatten = List.replicate n 120 := by
    intro n
    induction n with
    | zero => rfl
    | succ n ih =>
      rw [List.replicate_succ, List.map_cons, List.flatten_cons, ih, List.replicate_succ]
      rfl
  rw [h]
  rfl
theorem good_x2000 : Good (.str x2000) := by
  refine ⟨by simp [PyData.showable], by simp [PyData.depth], ?_, fun _ => by rw [noL]⟩
  rw [PyData.shown_str]
  refine Nat.le_trans (PySem.StrLaws.reprText_len _ fun c hc => ?_) ?_
  · rw [x2000_list] at hc
    rw [List.eq_of_mem_replicate hc]
    decide
  · have e : x2000.length = 2000 := by
      show x2000.cps.size = 2000
      rw [← Array.length_toList, x2000_list, List.length_replicate]
    rw [e, sizeLine_eq]
    decide
theorem good_of {d : PyData} {t : Str} (h1 : d.showable = true) (h2 : d.depth ≤ 60) (h3 : d.shown = t) (h4 : t.length ≤ 16777216) (h5 : d.hasDict = true → noL d = true) : Good d := ⟨h1, h2, by rw [h3, sizeLine_eq]; exact h4, h5⟩
theorem forall_cons {p : PyData → Prop} {d : PyData} {r : List PyData} (h : p d) (hr : ∀ x ∈ r, p x) : ∀ x ∈ d :: r, p x := List.forall_mem_cons.mpr ⟨h, hr⟩
theorem good_odd : ∀ d ∈ oddA ++ oddB, Good d := by
  unfold oddA oddB
  refine forall_cons ?_ (forall_cons ?_ (forall_cons ?_ (forall_cons ?_ (forall_cons ?_ (forall_cons ?_ (forall_cons ?_ (forall_cons ?_ (forall_cons ?_ (forall_cons ?_ (forall_cons ?_ (forall_cons ?_ (forall_cons ?_ (forall_cons ?_ (forall_cons ?_ (forall_cons ?_ (forall_cons ?_ (forall_cons good_x2000 (fun x h => nomatch h))))))))))))))))))
  all_goals
    refine good_of (t := _) ?_ ?_ (by simp only [PyData.shown_tuple, PyData.shown_list, PyData.shown_dict, PyData.shownAll_cons, PyData.shownAll_nil, PyData.shownKv_cons, PyData.shownKv_nil, PyData.shown_int, PyData.shown_str, PyData.shown_bool, PyData.shown_none]; rfl) (by decide +kernel) (by simp [PyData.hasDict, PyData.hasDictAll, noL, noLs, noLk])
    · simp only [PyData.showable, PyData.showableAll, PyData.showableKv]
      all_goals decide +kernel
    · simp only [PyData.depth, PyData.depthAll, PyData.depthKv]
      all_goals decide
theorem mul_ok : MulOk "x" 2000 := by
  refine ⟨by decide +kernel, fun _ _ => by decide +kernel, fun _ _ => by decide +kernel⟩
/-- a value that an error may carry -/
def Odd (K : PySem.W.Frag) (H : Hp) (v : V) : Prop := ∃ d, Dx K H v d ∧ Good d
theorem Odd.same {K : PySem.W.Frag} {H H' : Hp} {v : V} (s : L2.Same H H') : Odd K H v → Odd K H' v := fun ⟨d, h, g⟩ => ⟨d, dx_same s _ _ h, g⟩
def spOdd (K : PySem.W.Frag) : Sp := fun vs H Q _ => ∃ (p q : Addr) (k : Int), vs = [.ref p] ∧ Deck H p q k ∧ k ≤ 100000 ∧ ∀ v H', Odd K (New H H') v → Off p q H H' → Deck H' p q (k + 1) → Q v H'
section
variable {P : Program} {w : World} {K : PySem.W.Frag} {mg : Str → Option Value} {base : Heap} {f : Addr} {fd : FuncData}
theorem scOdd : FnScope ["deck", "some"] ["deck"] (defScope sOdd) := ⟨rfl, rfl, rfl, by decide +kernel, rfl, by decide +kernel, by decide +kernel⟩
theorem ok_odd (F : Fun K "_law_odd" "_law_odd" sOdd f fd) {fD : Addr} {fdD : FuncData} (D : Cal P w K mg base 2 "_law_pick" ["deck", "items"] (spPick K) fD fdD) : FnG P w K mg base 3 f fd ["deck"] (spOdd K) := by
  refine .ofBody F scOdd (fun vs H Q h => ?_) (fun cdv A outer s H vs Q hg hr h => ?_)
  · obtain ⟨p, q, k, rfl, _⟩ := h
    rfl
  · obtain ⟨p, q, k, rfl, hd, hk, kk⟩ := h
    refine ⟨_, pss_cons (ps_set (i := 1) scOdd.nd rfl (.inl rfl) (ls_lst (ds := oddA) (dxs_cons dx_str (dxs_cons dx_str (dxs_cons dx_str (dxs_cons (dx_tup dxs_nil) (dxs_cons (dx_tup (dxs_cons dx_int dxs_nil))
        (dxs_cons (dx_tup (dxs_cons dx_int (dxs_cons dx_int (dxs_cons dx_int (dxs_cons dx_int (dxs_cons dx_int dxs_nil)))))) (dxs_cons dx_int (dxs_cons dx_int (dxs_cons dx_neg (dxs_cons (dx_pow (by unfold CPow; decide))
        (dxs_cons dx_non (dxs_cons dx_bl (dxs_cons (dx_lst (dxs_cons dx_int dxs_nil)) (dxs_cons dx_one (dxs_cons (dx_tup (dxs_cons dx_str (dxs_cons (dx_tup dxs_nil) dxs_nil))) dxs_nil)))))))))))))))))
      (pss_one (ps_ret (pe_callG D.ok hr hg rfl D.g D.kp D.b (pa_cons (pv 0) (pa_cons (pe_op op_cat (pv 1) (ls_lst (ds := oddB) (dxs_cons (dx_tup (dxs_cons dx_str (dxs_cons (dx_tup (dxs_cons (dx_tup (dxs_cons (dx_tup (dxs_cons dx_str (dxs_cons (dx_tup (dxs_cons dx_int (dxs_cons dx_int dxs_nil))) dxs_nil))) dxs_nil)) dxs_nil)) dxs_nil)))
        (dxs_cons (dx_lst (dxs_cons dx_str (dxs_cons (dx_lst (dxs_cons dx_str dxs_nil)) dxs_nil))) (dxs_cons (dx_mulS mul_ok) dxs_nil))))) pa_nil))))), ?_⟩
    intro l xs H1 s1 hl0 l0 h1
    refine ⟨_, rfl, _, rfl, fun l2 xs2 H2 s2 hl2 l20 h2 => ⟨l, l2, xs, xs2, rfl, rfl, s2 _ _ hl0, hl2, by rw [dxs_len h1, dxs_len h2]; decide, fun m hm => ?_⟩⟩
    have s12 := s1.trans s2
    have s3 : L2.Same H (upd H2 m (.lst (xs ++ xs2))) := s12.trans (new_same hm)
    have hd3 := hd.same s3
    have dd : DxAll K (New H (upd H2 m (.lst (xs ++ xs2)))) (xs ++ xs2) (oddA ++ oddB) := dxs_same (New.left (new_same hm)) _ _ (dxs_app (dxs_same (New.left s2) _ _ h1) (dxs_same (New.right s1) _ _ h2))
    have hd0 := hd
    obtain ⟨cs, t, j, ⟨hp, hq, _⟩, _⟩ := id (hd.same s12)
    refine ⟨p, q, m, k, _, rfl, hd3, hk, upd_same, (ne_of_none hp hm).symm, (ne_of_none hq hm).symm, ?_, ?_, fun x H' hx off hd' => ?_⟩
    · intro e
      have z := dxs_len dd
      rw [e] at z
      exact absurd z (by decide)
    · rw [dxs_len dd]
      decide
    · obtain ⟨d, hd1, hd2⟩ := dxs_get dd x hx
      obtain ⟨_, _, _, ⟨hp0, hq0, _⟩, _⟩ := hd0
      refine kk x H' ⟨d, dx_same (fun b o h => ?_) _ _ hd2, good_odd d hd1⟩ ((Off.of s3).trans off) hd'
      obtain ⟨h1, h2⟩ := New.mem h
      have e1 := (ne_of_none hp0 h1).symm
      have e2 := (ne_of_none hq0 h1).symm
      rw [New.at h1]
      exact off b o e1 e2 h2
end
end K68
namespace K68
open PySem PySem.Spec PyProof.Rows L2 Gd Ex Dt
/-- the errors in the order of _law_made: the class by its place in the text, the field -/
def specs : List (Nat × Option Str) := [(2, none), (3, none), (4, some "path"), (5, some "path"), (6, some "path"), (7, some "path"), (8, some "path"), (9, some "path"), (10, some "count"), (11, some "name"), (12, some "name"), (13, some "call"), (14, none),
  (15, some "name"), (16, some "name"), (17, some "name"), (18, some "name"), (19, some "name"), (20, some "name"), (21, some "name"), (22, some "name"), (23, none), (24, some "name"), (25, none), (26, some "side"), (27, some "name"), (28, some "name")]
def subC : List Nat := [2, 3, 4, 5, 6, 7, 8, 9, 10, 11, 12, 13, 14, 15, 16, 17, 18, 19, 20, 21, 22, 23, 24, 25, 26, 27, 28]
def allC : List Nat := 1 :: subC
def wordV : Option Str → V
  | none => .non
  | some f => .str f
/-- an error of the class i at e, as _law_made makes it of it -/
def Err (ca : Nat → Addr) (it : V) (H : Hp) (e : Addr) (p : Nat × Option Str) : Prop := Exc H e (ca p.1) (p.2.map fun f => (f, it))
def MadeL (ca : Nat → Addr) (it : V) (H : Hp) : List V → List (Nat × Option Str) → Prop
  | [], [] => True
  | t :: ts, p :: ps => (∃ tt e, t = .ref tt ∧ H tt = some (.tup [.ref e, wordV p.2]) ∧ Err ca it H e p) ∧ MadeL ca it H ts ps
  | _, _ => False
theorem MadeL.same {ca : Nat → Addr} {it : V} {H H' : Hp} (s : L2.Same H H') : ∀ {ts : List V} {ps : List (Nat × Option Str)}, MadeL ca it H ts ps → MadeL ca it H' ts ps
  | [], [], _ => trivial
  | _ :: _, _ :: _, ⟨⟨tt, e, h1, h2, h3⟩, h⟩ => ⟨⟨tt, e, h1, s _ _ h2, h3.same s⟩, h.same s⟩
  | [], _ :: _, h => h.elim
  | _ :: _, [], h => h.elim
theorem MadeL.len {ca : Nat → Addr} {it : V} {H : Hp} : ∀ {ts : List V} {ps : List (Nat × Option Str)}, MadeL ca it H ts ps → ts.length = ps.length
  | [], [], _ => rfl
  | _ :: _, _ :: _, ⟨_, h⟩ => by rw [List.length_cons, List.length_cons, h.len]
  | [], _ :: _, h => h.elim
  | _ :: _, [], h => h.elim
theorem MadeL.app {ca : Nat → Addr} {it : V} {H : Hp} : ∀ {ts us : List V} {ps qs : List (Nat × Option Str)}, MadeL ca it H ts ps → MadeL ca it H us qs → MadeL ca it H (ts ++ us) (ps ++ qs)
  | [], _, [], _, _, h2 => h2
  | _ :: _, _, _ :: _, _, ⟨h, h1⟩, h2 => ⟨h, h1.app h2⟩
  | [], _, _ :: _, _, h, _ => h.elim
  | _ :: _, _, [], _, h, _ => h.elim
theorem MadeL.take {ca : Nat → Addr} {it : V} {H : Hp} : ∀ {ts : List V} {ps : List (Nat × Option Str)} (n : Nat), MadeL ca it H ts ps → MadeL ca it H (ts.take n) (ps.take n)
  | [], [], n, _ => by simp; trivial
  | _ :: _, _ :: _, 0, _ => trivial
  | _ :: _, _ :: _, n + 1, ⟨h, h1⟩ => ⟨h, h1.take n⟩
  | [], _ :: _, _, h => h.elim
  | _ :: _, [], _, h => h.elim
theorem MadeL.drop {ca : Nat → Addr} {it : V} {H : Hp} : ∀ {ts : List V} {ps : List (Nat × Option Str)} (n : Nat), MadeL ca it H ts ps → MadeL ca it H (ts.drop n) (ps.drop n)
  | [], [], n, _ => by simp; trivial
  | _ :: _, _ :: _, 0, h => h
  | _ :: _, _ :: _, n + 1, ⟨h, h1⟩ => h1.drop n
  | [], _ :: _, _, h => h.elim
  | _ :: _, [], _, h => h.elim
theorem MadeL.get {ca : Nat → Addr} {it : V} {H : Hp} : ∀ {ts : List V} {ps : List (Nat × Option Str)} {i : Nat} {t : V}, MadeL ca it H ts ps → ts[i]? = some t → ∃ p tt e, ps[i]? = some p ∧ t = .ref tt ∧ H tt = some (.tup [.ref e, wordV p.2]) ∧ Err ca it H e p
  | _ :: _, p :: _, 0, t, ⟨⟨tt, e, h1, h2, h3⟩, _⟩, q => by
    cases q
    exact ⟨p, tt, e, rfl, h1, h2, h3⟩
  | _ :: _, _ :: _, i + 1, t, ⟨_, h⟩, q => h.get (i := i) q
  | [], [], _, _, _, q => by cases q
  | [], _ :: _, _, _, h, _ => h.elim
  | _ :: _, [], _, _, h, _ => h.elim
/-- the errors alone -/
def NamedL (ca : Nat → Addr) (it : V) (H : Hp) : List V → List (Nat × Option Str) → Prop
  | [], [] => True
  | t :: ts, p :: ps => (∃ e, t = .ref e ∧ Err ca it H e p) ∧ NamedL ca it H ts ps
  | _, _ => False
theorem NamedL.same {ca : Nat → Addr} {it : V} {H H' : Hp} (s : L2.Same H H') : ∀ {ts : List V} {ps : List (Nat × Option Str)}, NamedL ca it H ts ps → NamedL ca it H' ts ps
  | [], [], _ => trivial
  | _ :: _, _ :: _, ⟨⟨e, h1, h3⟩, h⟩ => ⟨⟨e, h1, h3.same s⟩, h.same s⟩
  | [], _ :: _, h => h.elim
  | _ :: _, [], h => h.elim
theorem NamedL.len {ca : Nat → Addr} {it : V} {H : Hp} : ∀ {ts : List V} {ps : List (Nat × Option Str)}, NamedL ca it H ts ps → ts.length = ps.length
  | [], [], _ => rfl
  | _ :: _, _ :: _, ⟨_, h⟩ => by rw [List.length_cons, List.length_cons, h.len]
  | [], _ :: _, h => h.elim
  | _ :: _, [], h => h.elim
theorem NamedL.app {ca : Nat → Addr} {it : V} {H : Hp} : ∀ {ts us : List V} {ps qs : List (Nat × Option Str)}, NamedL ca it H ts ps → NamedL ca it H us qs → NamedL ca it H (ts ++ us) (ps ++ qs)
  | [], _, [], _, _, h2 => h2
  | _ :: _, _, _ :: _, _, ⟨h, h1⟩, h2 => ⟨h, h1.app h2⟩
  | [], _, _ :: _, _, h, _ => h.elim
  | _ :: _, _, [], _, h, _ => h.elim
theorem NamedL.get {ca : Nat → Addr} {it : V} {H : Hp} : ∀ {ts : List V} {ps : List (Nat × Option Str)} {i : Nat} {t : V}, NamedL ca it H ts ps → ts[i]? = some t → ∃ p e, ps[i]? = some p ∧ t = .ref e ∧ Err ca it H e p
  | _ :: _, p :: _, 0, t, ⟨⟨e, h1, h3⟩, _⟩, q => by
    cases q
    exact ⟨p, e, rfl, h1, h3⟩
  | _ :: _, _ :: _, i + 1, t, ⟨_, h⟩, q => h.get (i := i) q
  | [], [], _, _, _, q => by cases q
  | [], _ :: _, _, _, h, _ => h.elim
  | _ :: _, [], _, _, h, _ => h.elim

/-! ### the rules: a new error, pairs of an error and its word -/
def tErr (ca : Nat → Addr) (i : Nat) (f : Option Str) : TE := fun σ H Q => ∃ it, σ[0]? = some (some it) ∧ ∀ e H', L2.Same H H' → Err ca it H' e (i, f) → Q (.ref e) H'
def tMd (ca : Nat → Addr) (ps : List (Nat × Option Str)) : TA := fun σ H Q => ∃ it, σ[0]? = some (some it) ∧ ∀ ts H', L2.Same H H' → MadeL ca it H' ts ps → Q ts H'
def tNd (ca : Nat → Addr) (ps : List (Nat × Option Str)) : TA := fun σ H Q => ∃ it, σ[0]? = some (some it) ∧ ∀ ts H', L2.Same H H' → NamedL ca it H' ts ps → Q ts H'
section
variable {X : Cx} {ca : Nat → Addr} {i : Nat} {f x : Str} {bmB : List Value} {newId : String} {e c : Expr} {es : List Expr} {p pos kpos : Pos} {ps : List (Nat × Option Str)}
theorem exo_new {H : Hp} {a d C : Addr} {v : V} (ha : H a = none) (hd : upd H a (exo a C none) d = none) (hda : d ≠ a) : L2.Same H (upd (upd (upd H a (exo a C none)) d (exd d [(f, v)])) a (exo a C (some d))) ∧ Exc (upd (upd (upd H a (exo a C none)) d (exd d [(f, v)])) a (exo a C (some d))) a C (some (f, v)) := by
  obtain ⟨_, hd'⟩ := upd_none hd
  refine ⟨fun b o h => ?_, d, upd_same, by rw [upd_ne hda, upd_same]⟩
  have n1 : b ≠ a := ne_of_none h ha
  rw [upd_ne n1, upd_ne (ne_of_none h hd'), upd_ne n1]
  exact h
theorem new_at (M : MkX X.prog X.w X.K X.mg X.base (ca i) bmB newId 1 ["self", f] (spIni X.K bmB newId f)) (ht : PySem.W.takerIn X.K (ca i) f = some none) (hr : Room 2 X.A) (hg : Gl X x) (hm : X.mg x = some (.ref (ca i))) (ha : PE X e (tVar 0))
    (hdb : (x == ("__debug__" : Str)) = false := by decide) (he : starEach [e] X.env = (false, eval e X.env) :: starEach [] X.env := by rfl) : PE X (.Call (.Name x p) [e] [] pos) (tErr ca i (some f)) := by
  refine pe_imp (pe_mk M hr hg hm (pa_cons ha pa_nil he) hdb he (by rfl)) fun σ H Q q => ?_
  obtain ⟨it, h0, k⟩ := q
  refine ⟨it, h0, (by show 1 ≤ 1000; decide), fun a hn => ⟨a, ca i, it, rfl, M.ex, ht, upd_same, fun d hd hda => ⟨rfl, ?_⟩⟩⟩
  obtain ⟨s, z⟩ := exo_new (f := f) (v := it) hn hd hda
  exact k a _ s z
theorem new_kw (M : MkX X.prog X.w X.K X.mg X.base (ca i) bmB newId 1 ["self", f] (spIni X.K bmB newId f)) (ht : PySem.W.takerIn X.K (ca i) f = some none) (hr : Room 2 X.A) (hg : Gl X x) (hm : X.mg x = some (.ref (ca i))) (ha : PE X e (tVar 0))
    (hdb : (x == ("__debug__" : Str)) = false := by decide) (hall : (backToKw pos (keywordEach [⟨some f, e, kpos⟩] X.env)).all (·.1.isSome) = true := by rfl) (hks : (backToKw pos (keywordEach [⟨some f, e, kpos⟩] X.env)).filterMap (·.1) = [f] := by rfl)
    (hpl : ((backTo pos (starEach [] X.env)).any (·.1) || (backToKw pos (keywordEach [⟨some f, e, kpos⟩] X.env)).any (·.1.isNone)) = false := by rfl) : PE X (.Call (.Name x p) [] [⟨some f, e, kpos⟩] pos) (tErr ca i (some f)) := by
  refine pe_imp (pe_mkK M hr hg hm ha hdb hall hks hpl) fun σ H Q q => ?_
  obtain ⟨it, h0, k⟩ := q
  refine ⟨it, h0, it, rfl, fun a hn => ⟨a, ca i, it, rfl, M.ex, ht, upd_same, fun d hd hda => ⟨rfl, ?_⟩⟩⟩
  obtain ⟨s, z⟩ := exo_new (f := f) (v := it) hn hd hda
  exact k a _ s z
theorem new_bare (T : ExK X.K (ca i) veT "ValueError.__new__") (hi : PySem.W.findIn X.K (.ref (ca i)) "__init__" = some (some (.builtin "ValueError.__init__"))) (hg : Gl X x) (hm : X.mg x = some (.ref (ca i))) (hdb : (x == ("__debug__" : Str)) = false := by decide) :
    PE X (.Call (.Name x p) [] [] pos) (tErr ca i none) := by
  refine pe_imp (pe_bare F.excBase_ValueError T hi hg hm hdb) fun σ H Q q => ?_
  obtain ⟨it, h0, k⟩ := q
  exact fun a hn => k a _ (same_new hn) upd_same
theorem md_nil : PA X [] (tMd ca []) := pa_imp pa_nil fun σ H Q ⟨it, h0, k⟩ => k [] H (L2.Same.refl H) trivial
theorem md_cons {fo : Option Str} {x1 : Nat} (he : PE X e (tErr ca i fo)) (hw : PE X c (tC (wordV fo))) (hr : PA X es (tMd ca ps)) (hs : starEach [e, c] X.env = (false, eval e X.env) :: starEach [c] X.env := by rfl)
    (hs2 : starEach [c] X.env = (false, eval c X.env) :: starEach [] X.env := by rfl) (hs3 : starEach (.Tuple [e, c] x1 pos :: es) X.env = (false, eval (.Tuple [e, c] x1 pos) X.env) :: starEach es X.env := by rfl) :
    PA X (.Tuple [e, c] x1 pos :: es) (tMd ca ((i, fo) :: ps)) := by
  refine pa_imp (pa_cons (pe_tup (pa_cons he (pa_cons hw pa_nil hs2) hs)) hr hs3) fun σ H Q q => ?_
  obtain ⟨it, h0, k⟩ := q
  refine ⟨it, h0, fun a H1 s1 h1 => ⟨by show 2 ≤ sizeLine; decide, fun t ht => ⟨it, h0, fun ts H2 s2 h2 => ?_⟩⟩⟩
  have s3 := same_new (o := .tup [.ref a, wordV fo]) ht
  exact k (.ref t :: ts) H2 (s1.trans (s3.trans s2)) ⟨⟨t, a, rfl, s2 _ _ upd_same, h1.same (s3.trans s2)⟩, h2⟩
theorem nd_nil : PA X [] (tNd ca []) := pa_imp pa_nil fun σ H Q ⟨it, h0, k⟩ => k [] H (L2.Same.refl H) trivial
theorem nd_cons {fo : Option Str} (he : PE X e (tErr ca i fo)) (hr : PA X es (tNd ca ps)) (hs3 : starEach (e :: es) X.env = (false, eval e X.env) :: starEach es X.env := by rfl) : PA X (e :: es) (tNd ca ((i, fo) :: ps)) := by
  refine pa_imp (pa_cons he hr hs3) fun σ H Q q => ?_
  obtain ⟨it, h0, k⟩ := q
  exact ⟨it, h0, fun a H1 s1 h1 => ⟨it, h0, fun ts H2 s2 h2 => k (.ref a :: ts) H2 (s1.trans s2) ⟨⟨a, rfl, h1.same s2⟩, h2⟩⟩⟩
/-- a list of such pairs that may be changed -/
def tMl (ca : Nat → Addr) (ps : List (Nat × Option Str)) : TE := fun σ H Q => ∃ it, σ[0]? = some (some it) ∧ ∀ l xs H', L2.Same H H' → H' l = some (.lst xs) → MadeL ca it H' xs ps → Q (.ref l) H'
theorem md_lst (h : PA X es (tMd ca ps)) (hl : ps.length ≤ 100 := by decide) : PE X (.List es pos) (tMl ca ps) :=
  pe_imp (pe_lst h) fun σ H Q ⟨it, h0, k⟩ => ⟨it, h0, fun ts H1 s1 h1 => ⟨by rw [h1.len]; exact Nat.le_trans hl (by decide), fun p hp => k p ts _ (s1.trans (same_new hp)) upd_same (h1.same (same_new hp))⟩⟩
def tNl (ca : Nat → Addr) (ps : List (Nat × Option Str)) : TE := fun σ H Q => ∃ it, σ[0]? = some (some it) ∧ ∀ l xs H', L2.Same H H' → H' l = some (.lst xs) → NamedL ca it H' xs ps → Q (.ref l) H'
theorem nd_lst (h : PA X es (tNd ca ps)) (hl : ps.length ≤ 100 := by decide) : PE X (.List es pos) (tNl ca ps) :=
  pe_imp (pe_lst h) fun σ H Q ⟨it, h0, k⟩ => ⟨it, h0, fun ts H1 s1 h1 => ⟨by rw [h1.len]; exact Nat.le_trans hl (by decide), fun p hp => k p ts _ (s1.trans (same_new hp)) upd_same (h1.same (same_new hp))⟩⟩
/-- a + [such pairs], a a list of such pairs -/
theorem md_cat {a b : Expr} {ps qs : List (Nat × Option Str)} (ha : PE X a (tMl ca ps)) (hb : PE X b (tMl ca qs)) (hl : ps.length + qs.length ≤ 100 := by decide) : PE X (.BinOp a .Add b pos) (tMl ca (ps ++ qs)) :=
  pe_imp (pe_op op_cat ha hb) fun σ H Q ⟨it, h0, k⟩ => ⟨it, h0, fun l xs H1 s1 h1 m1 => ⟨it, h0, fun l2 ys H2 s2 h2 m2 => ⟨l, l2, xs, ys, rfl, rfl, s2 _ _ h1, h2, by rw [m1.len, m2.len]; exact Nat.le_trans hl (by decide), fun p hp =>
    k p _ _ (s1.trans (s2.trans (same_new hp))) upd_same (((m1.same s2).app m2).same (same_new hp))⟩⟩⟩
theorem nd_cat {a b : Expr} {ps qs : List (Nat × Option Str)} (ha : PE X a (tNl ca ps)) (hb : PE X b (tNl ca qs)) (hl : ps.length + qs.length ≤ 100 := by decide) : PE X (.BinOp a .Add b pos) (tNl ca (ps ++ qs)) :=
  pe_imp (pe_op op_cat ha hb) fun σ H Q ⟨it, h0, k⟩ => ⟨it, h0, fun l xs H1 s1 h1 m1 => ⟨it, h0, fun l2 ys H2 s2 h2 m2 => ⟨l, l2, xs, ys, rfl, rfl, s2 _ _ h1, h2, by rw [m1.len, m2.len]; exact Nat.le_trans hl (by decide), fun p hp =>
    k p _ _ (s1.trans (s2.trans (same_new hp))) upd_same (((m1.same s2).app m2).same (same_new hp))⟩⟩⟩
end
def spMade (ca : Nat → Addr) : Sp := fun vs H Q _ => ∃ it, vs = [it] ∧ ∀ l xs H', L2.Same H H' → H' l = some (.lst xs) → MadeL ca it H' xs specs → Q (.ref l) H'
def specsN : List (Nat × Option Str) := specs.filter fun p => p.2.isSome
def spNamed (ca : Nat → Addr) : Sp := fun vs H Q _ => ∃ it, vs = [it] ∧ ∀ l xs H', L2.Same H H' → H' l = some (.lst xs) → NamedL ca it H' xs specsN → Q (.ref l) H'

def bareS : List (Nat × Option Str) := [(2, none), (3, none), (14, none)]
theorem cutV_take (xs : List V) (n : Nat) : cutV xs none (some (n : Int)) = xs.take n := by
  unfold cutV
  rw [HT.sIx_none, HT.sIx_nat, List.drop_zero, Nat.sub_zero]
  rcases Nat.le_total n xs.length with h | h
  · rw [Nat.min_eq_left h]
  · rw [Nat.min_eq_right h, List.take_of_length_le (Nat.le_refl _), List.take_of_length_le h]
theorem cutV_drop (xs : List V) (n : Nat) : cutV xs (some (n : Int)) none = xs.drop n := by
  unfold cutV
  rw [HT.sIx_nat, HT.sIx_none]
  rcases Nat.le_total n xs.length with h | h
  · rw [Nat.min_eq_left h]
    exact List.take_of_length_le (by rw [List.length_drop]; omega)
  · rw [Nat.min_eq_right h, List.drop_of_length_le (Nat.le_refl _), List.drop_of_length_le h, List.take_nil]
theorem cut2 (bs : List V) : cutV bs none (some 2) = bs.take 2 := cutV_take bs 2
theorem drop2 (bs : List V) : cutV bs (some 2) none = bs.drop 2 := cutV_drop bs 2
def MidM (ca : Nat → Addr) (it : V) (H : Hp) (ps : List (Nat × Option Str)) : L2.St → Hp → Prop := fun σ H1 => ∃ l xs lb bs, σ = [some it, some (.ref lb), some (.ref l)] ∧ L2.Same H H1 ∧ H1 l = some (.lst xs) ∧ MadeL ca it H1 xs ps ∧ H1 lb = some (.lst bs) ∧ MadeL ca it H1 bs bareS
theorem md_found {ca : Nat → Addr} {it : V} {H H1 : Hp} {ps qs : List (Nat × Option Str)} {σ : L2.St} {D : Ends} (m : MidM ca it H ps σ H1) (hl : ps.length + qs.length ≤ 100) : tAsg (tOp rCat (tVar 2) (tMl ca qs)) (gName 2) { D with nx := MidM ca it H (ps ++ qs) } σ H1 := by
  obtain ⟨l, xs, lb, bs, rfl, s, h, mm, hb, mb⟩ := m
  refine ⟨_, rfl, it, rfl, fun l2 ys H2 s2 h2 m2 => ⟨l, l2, xs, ys, rfl, rfl, s2 _ _ h, h2, by rw [mm.len, m2.len]; exact Nat.le_trans hl (by decide), fun p hp => ?_⟩⟩
  have s3 := same_new (o := .lst (xs ++ ys)) hp
  exact ⟨p, _, lb, bs, rfl, s.trans (s2.trans s3), upd_same, ((mm.same s2).app m2).same s3, (s2.trans s3) _ _ hb, mb.same (s2.trans s3)⟩
def MidN (ca : Nat → Addr) (it : V) (H : Hp) (ps : List (Nat × Option Str)) : L2.St → Hp → Prop := fun σ H1 => ∃ l xs, σ = [some it, some (.ref l)] ∧ L2.Same H H1 ∧ H1 l = some (.lst xs) ∧ NamedL ca it H1 xs ps
theorem nd_found {ca : Nat → Addr} {it : V} {H H1 : Hp} {ps qs : List (Nat × Option Str)} {σ : L2.St} {D : Ends} (m : MidN ca it H ps σ H1) (hl : ps.length + qs.length ≤ 100) : tAsg (tOp rCat (tVar 1) (tNl ca qs)) (gName 1) { D with nx := MidN ca it H (ps ++ qs) } σ H1 := by
  obtain ⟨l, xs, rfl, s, h, mm⟩ := m
  refine ⟨_, rfl, it, rfl, fun l2 ys H2 s2 h2 m2 => ⟨l, l2, xs, ys, rfl, rfl, s2 _ _ h, h2, by rw [mm.len, m2.len]; exact Nat.le_trans hl (by decide), fun p hp => ?_⟩⟩
  have s3 := same_new (o := .lst (xs ++ ys)) hp
  exact ⟨p, _, rfl, s.trans (s2.trans s3), upd_same, ((mm.same s2).app m2).same s3⟩
/-! ### the classes of an error -/
def kv (i : Nat) (js : List Nat) : List V := (js.map fun j => decide (i = j)).map V.bl
def spKinds (ca : Nat → Addr) : Sp := fun vs H Q _ => ∃ (a : Addr) (i : Nat) (fv : Option (Str × V)), vs = [.ref a] ∧ Exc H a (ca i) fv ∧ i ∈ allC ∧ ∀ l H', L2.Same H H' → H' l = some (.lst (kv i subC)) → Q (.ref l) H'
def tKd (ca : Nat → Addr) (js : List Nat) : TA := fun σ H Q => ∃ (a : Addr) (i : Nat) (fv : Option (Str × V)), σ[0]? = some (some (.ref a)) ∧ Exc H a (ca i) fv ∧ i ∈ allC ∧ (∀ j ∈ js, j ∈ subC) ∧ Q (kv i js) H
section
variable {X : Cx} {ca : Nat → Addr} {e : Expr} {es : List Expr} {js : List Nat} {j : Nat}
theorem kd_nil : PA X [] (tKd ca []) := pa_imp pa_nil fun σ H Q ⟨_, _, _, _, _, _, _, q⟩ => q
theorem kd_cons (ti : ∀ i ∈ allC, ExcC X.K (ca i)) (tk : ∀ i ∈ allC, ∀ j ∈ subC, PySem.W.kitOne X.K (.ref (ca i)) (.ref (ca j)) = some (decide (i = j))) (he : PE X e (tCB (rIs X.K) (tCons (tVar 0) (tCons (tC (.ref (ca j))) tNil)))) (hr : PA X es (tKd ca js))
    (hs : starEach (e :: es) X.env = (false, eval e X.env) :: starEach es X.env := by rfl) : PA X (e :: es) (tKd ca (j :: js)) := by
  refine pa_imp (pa_cons he hr hs) fun σ H Q q => ?_
  obtain ⟨a, i, fv, h0, hx, hi, hj, q⟩ := q
  exact ⟨_, h0, a, ca i, fv, _, _, _, rfl, hx, ti i hi, fun u hu => hu, tk i hi j (hj j List.mem_cons_self), a, i, fv, h0, hx, hi, fun k hk => hj k (List.mem_cons_of_mem _ hk), q⟩
end
def MidK (a : Addr) (i : Nat) (H : Hp) (js : List Nat) : L2.St → Hp → Prop := fun σ H1 => ∃ l, σ = [some (.ref a), some (.ref l)] ∧ L2.Same H H1 ∧ H1 l = some (.lst (kv i js))
theorem kd_found {ca : Nat → Addr} {a : Addr} {i : Nat} {fv : Option (Str × V)} {H H1 : Hp} {js ks : List Nat} {σ : L2.St} {D : Ends} (hx : Exc H a (ca i) fv) (hi : i ∈ allC) (m : MidK a i H js σ H1) (hk : ∀ j ∈ ks, j ∈ subC) (hl : js.length + ks.length ≤ 100) :
    tAsg (tOp rCat (tVar 1) (tLst (tKd ca ks))) (gName 1) { D with nx := MidK a i H (js ++ ks) } σ H1 := by
  obtain ⟨l, rfl, s, h⟩ := m
  have z : (kv i ks).length = ks.length := by unfold kv; rw [List.length_map, List.length_map]
  have z2 : (kv i js).length = js.length := by unfold kv; rw [List.length_map, List.length_map]
  refine ⟨_, rfl, a, i, fv, rfl, hx.same s, hi, hk, by rw [z]; exact Nat.le_trans (by omega) (show 100 ≤ sizeLine by decide), fun p hp => ⟨l, p, _, _, rfl, rfl, (same_new hp) _ _ h, upd_same, by rw [z, z2]; exact Nat.le_trans hl (by decide), fun p2 hp2 => ?_⟩⟩
  exact ⟨p2, rfl, s.trans ((same_new hp).trans (same_new hp2)), by rw [upd_same]; unfold kv; rw [List.map_append, List.map_append]⟩
/-! ### what an error carries -/
def spCarried (ca : Nat → Addr) : Sp := fun vs H Q _ => ∃ (a : Addr) (i : Nat) (x : Str) (v : V), vs = [.ref a, .str x] ∧ (i, some x) ∈ specs ∧ Exc H a (ca i) (some (x, v)) ∧ Q v H
theorem spec_all {p : Nat × Option Str} (h : p ∈ specs) : p.1 ∈ allC := (show ∀ p ∈ specs, p.1 ∈ allC by decide) p h
theorem spec_words {i : Nat} {x : Str} (h : (i, some x) ∈ specs) : x = "path" ∨ x = "name" ∨ x = "side" ∨ x = "call" ∨ x = "count" := by
  simp only [specs, List.mem_cons, Prod.mk.injEq, Option.some.injEq, reduceCtorEq, and_false, List.not_mem_nil, or_false, false_or] at h
  rcases h with h | h | h | h | h | h | h | h | h | h | h | h | h | h | h | h | h | h | h | h | h | h <;> simp [h.2]

/-- what the written part and the names say of the classes; ca: their addresses by their places in the text -/
structure Txt (P : Program) (w : World) (K : PySem.W.Frag) (mg : Str → Option Value) (base : Heap) (ca : Nat → Addr) : Prop where
  g1 : mg "RoundTiesError" = some (.ref (ca 1))
  g2 : mg "InvalidText" = some (.ref (ca 2))
  g3 : mg "InvalidCommand" = some (.ref (ca 3))
  g4 : mg "NoPath" = some (.ref (ca 4))
  g5 : mg "UnknownName" = some (.ref (ca 5))
  g6 : mg "UnknownTag" = some (.ref (ca 6))
  g7 : mg "WrongCount" = some (.ref (ca 7))
  g8 : mg "WrongSort" = some (.ref (ca 8))
  g9 : mg "WrongPlace" = some (.ref (ca 9))
  g10 : mg "WrongArguments" = some (.ref (ca 10))
  g11 : mg "NoCertificate" = some (.ref (ca 11))
  g12 : mg "NoRuns" = some (.ref (ca 12))
  g13 : mg "NotPending" = some (.ref (ca 13))
  g14 : mg "NotFinished" = some (.ref (ca 14))
  g15 : mg "NotPlain" = some (.ref (ca 15))
  g16 : mg "NotSimple" = some (.ref (ca 16))
  g17 : mg "NoMaker" = some (.ref (ca 17))
  g18 : mg "NameTaken" = some (.ref (ca 18))
  g19 : mg "NotSteady" = some (.ref (ca 19))
  g20 : mg "NoTest" = some (.ref (ca 20))
  g21 : mg "NoTable" = some (.ref (ca 21))
  g22 : mg "NotSingle" = some (.ref (ca 22))
  g23 : mg "NotFinite" = some (.ref (ca 23))
  g24 : mg "UnknownHole" = some (.ref (ca 24))
  g25 : mg "NoTurn" = some (.ref (ca 25))
  g26 : mg "NoSide" = some (.ref (ca 26))
  g27 : mg "UnknownFunction" = some (.ref (ca 27))
  g28 : mg "UnknownItem" = some (.ref (ca 28))
  e1 : ExK K (ca 1) veT "ValueError.__new__"
  n1 : PySem.W.findIn K (.ref (ca 1)) "__init__" = some (some (.builtin "ValueError.__init__"))
  e2 : ExK K (ca 2) veT "ValueError.__new__"
  n2 : PySem.W.findIn K (.ref (ca 2)) "__init__" = some (some (.builtin "ValueError.__init__"))
  e3 : ExK K (ca 3) veT "ValueError.__new__"
  n3 : PySem.W.findIn K (.ref (ca 3)) "__init__" = some (some (.builtin "ValueError.__init__"))
  m4 : MkX P w K mg base (ca 4) veT "ValueError.__new__" 1 ["self", "path"] (spIni K veT "ValueError.__new__" "path")
  t4 : PySem.W.takerIn K (ca 4) "path" = some none
  m5 : MkX P w K mg base (ca 5) veT "ValueError.__new__" 1 ["self", "path"] (spIni K veT "ValueError.__new__" "path")
  t5 : PySem.W.takerIn K (ca 5) "path" = some none
  m6 : MkX P w K mg base (ca 6) veT "ValueError.__new__" 1 ["self", "path"] (spIni K veT "ValueError.__new__" "path")
  t6 : PySem.W.takerIn K (ca 6) "path" = some none
  m7 : MkX P w K mg base (ca 7) veT "ValueError.__new__" 1 ["self", "path"] (spIni K veT "ValueError.__new__" "path")
  t7 : PySem.W.takerIn K (ca 7) "path" = some none
  m8 : MkX P w K mg base (ca 8) veT "ValueError.__new__" 1 ["self", "path"] (spIni K veT "ValueError.__new__" "path")
  t8 : PySem.W.takerIn K (ca 8) "path" = some none
  m9 : MkX P w K mg base (ca 9) veT "ValueError.__new__" 1 ["self", "path"] (spIni K veT "ValueError.__new__" "path")
  t9 : PySem.W.takerIn K (ca 9) "path" = some none
  m10 : MkX P w K mg base (ca 10) veT "ValueError.__new__" 1 ["self", "count"] (spIni K veT "ValueError.__new__" "count")
  t10 : PySem.W.takerIn K (ca 10) "count" = some none
  m11 : MkX P w K mg base (ca 11) veT "ValueError.__new__" 1 ["self", "name"] (spIni K veT "ValueError.__new__" "name")
  t11 : PySem.W.takerIn K (ca 11) "name" = some none
  m12 : MkX P w K mg base (ca 12) veT "ValueError.__new__" 1 ["self", "name"] (spIni K veT "ValueError.__new__" "name")
  t12 : PySem.W.takerIn K (ca 12) "name" = some none
  m13 : MkX P w K mg base (ca 13) veT "ValueError.__new__" 1 ["self", "call"] (spIni K veT "ValueError.__new__" "call")
  t13 : PySem.W.takerIn K (ca 13) "call" = some none
  e14 : ExK K (ca 14) veT "ValueError.__new__"
  n14 : PySem.W.findIn K (.ref (ca 14)) "__init__" = some (some (.builtin "ValueError.__init__"))
  m15 : MkX P w K mg base (ca 15) veT "ValueError.__new__" 1 ["self", "name"] (spIni K veT "ValueError.__new__" "name")
  t15 : PySem.W.takerIn K (ca 15) "name" = some none
  m16 : MkX P w K mg base (ca 16) veT "ValueError.__new__" 1 ["self", "name"] (spIni K veT "ValueError.__new__" "name")
  t16 : PySem.W.takerIn K (ca 16) "name" = some none
  m17 : MkX P w K mg base (ca 17) veT "ValueError.__new__" 1 ["self", "name"] (spIni K veT "ValueError.__new__" "name")
  t17 : PySem.W.takerIn K (ca 17) "name" = some none
  m18 : MkX P w K mg base (ca 18) veT "ValueError.__new__" 1 ["self", "name"] (spIni K veT "ValueError.__new__" "name")
  t18 : PySem.W.takerIn K (ca 18) "name" = some none
  m19 : MkX P w K mg base (ca 19) veT "ValueError.__new__" 1 ["self", "name"] (spIni K veT "ValueError.__new__" "name")
  t19 : PySem.W.takerIn K (ca 19) "name" = some none
  m20 : MkX P w K mg base (ca 20) veT "ValueError.__new__" 1 ["self", "name"] (spIni K veT "ValueError.__new__" "name")
  t20 : PySem.W.takerIn K (ca 20) "name" = some none
  m21 : MkX P w K mg base (ca 21) veT "ValueError.__new__" 1 ["self", "name"] (spIni K veT "ValueError.__new__" "name")
  t21 : PySem.W.takerIn K (ca 21) "name" = some none
  m22 : MkX P w K mg base (ca 22) veT "ValueError.__new__" 1 ["self", "name"] (spIni K veT "ValueError.__new__" "name")
  t22 : PySem.W.takerIn K (ca 22) "name" = some none
  e23 : ExK K (ca 23) veT "ValueError.__new__"
  n23 : PySem.W.findIn K (.ref (ca 23)) "__init__" = some (some (.builtin "ValueError.__init__"))
  m24 : MkX P w K mg base (ca 24) veT "ValueError.__new__" 1 ["self", "name"] (spIni K veT "ValueError.__new__" "name")
  t24 : PySem.W.takerIn K (ca 24) "name" = some none
  e25 : ExK K (ca 25) veT "ValueError.__new__"
  n25 : PySem.W.findIn K (.ref (ca 25)) "__init__" = some (some (.builtin "ValueError.__init__"))
  m26 : MkX P w K mg base (ca 26) veT "ValueError.__new__" 1 ["self", "side"] (spIni K veT "ValueError.__new__" "side")
  t26 : PySem.W.takerIn K (ca 26) "side" = some none
  m27 : MkX P w K mg base (ca 27) keT "LookupError.__new__" 1 ["self", "name"] (spIni K keT "LookupError.__new__" "name")
  t27 : PySem.W.takerIn K (ca 27) "name" = some none
  m28 : MkX P w K mg base (ca 28) keT "LookupError.__new__" 1 ["self", "name"] (spIni K keT "LookupError.__new__" "name")
  t28 : PySem.W.takerIn K (ca 28) "name" = some none
  is : ∀ i ∈ allC, ExcC K (ca i)
  no : ∀ p ∈ specs, ∀ f, p.2 = some f → PySem.W.findIn K (.ref (ca p.1)) f = some none
  kit : ∀ i ∈ allC, ∀ j ∈ subC, PySem.W.kitOne K (.ref (ca i)) (.ref (ca j)) = some (decide (i = j))
  kitR : ∀ i ∈ allC, PySem.W.kitOne K (.ref (ca i)) (.ref (ca 1)) = some (decide (i < 27))
  kitV : ∀ i ∈ allC, PySem.W.kitOne K (.ref (ca i)) (.type "ValueError") = some (decide (i < 27))
  kitK : ∀ i ∈ allC, PySem.W.kitOne K (.ref (ca i)) (.type "KeyError") = some (decide (27 ≤ i))
  isi : mg "isinstance" = none
  val : mg "ValueError" = none
  key : mg "KeyError" = none
section
variable {P : Program} {w : World} {K : PySem.W.Frag} {mg : Str → Option Value} {base : Heap} {ca : Nat → Addr} {f : Addr} {fd : FuncData}

theorem scMade : FnScope ["it", "bare", "found"] ["it"] (defScope sMade) := ⟨rfl, rfl, rfl, by decide +kernel, rfl, by decide +kernel, by decide +kernel⟩
theorem ok_made (F : Fun K "_law_made" "_law_made" sMade f fd) (T : Txt P w K mg base ca) : FnG P w K mg base 3 f fd ["it"] (spMade ca) := by
  refine .ofBody F scMade (fun vs H Q h => ?_) (fun cdv A outer s H vs Q hg hr h => ?_)
  · obtain ⟨it, rfl, _⟩ := h
    rfl
  · obtain ⟨it, rfl, kk⟩ := h
    refine ⟨_, (C8.pss_cut (ps_set (i := 1) scMade.nd rfl (.inl rfl) (md_lst (md_cons (new_bare T.e2 T.n2 rfl T.g2) pe_non (md_cons (new_bare T.e3 T.n3 rfl T.g3) pe_non (md_cons (new_bare T.e14 T.n14 rfl T.g14) pe_non md_nil)))))
      (C8.pss_cut (ps_set (i := 2) scMade.nd rfl (.inl rfl) (pe_op op_cat (pe_slice sl_list (pv 1) po_none (po_some pe_int)) (md_lst (md_cons (new_at T.m4 T.t4 hr rfl T.g4 (pv 0)) pe_str (md_cons (new_at T.m5 T.t5 hr rfl T.g5 (pv 0)) pe_str (md_cons (new_at T.m6 T.t6 hr rfl T.g6 (pv 0)) pe_str md_nil))))))
      (C8.pss_cut (ps_set (i := 2) scMade.nd rfl (.inl rfl) (pe_op op_cat (pv 2) (md_lst (md_cons (new_at T.m7 T.t7 hr rfl T.g7 (pv 0)) pe_str (md_cons (new_at T.m8 T.t8 hr rfl T.g8 (pv 0)) pe_str (md_cons (new_at T.m9 T.t9 hr rfl T.g9 (pv 0)) pe_str md_nil))))))
      (C8.pss_cut (ps_set (i := 2) scMade.nd rfl (.inl rfl) (pe_op op_cat (pv 2) (md_lst (md_cons (new_at T.m10 T.t10 hr rfl T.g10 (pv 0)) pe_str (md_cons (new_at T.m11 T.t11 hr rfl T.g11 (pv 0)) pe_str (md_cons (new_at T.m12 T.t12 hr rfl T.g12 (pv 0)) pe_str md_nil))))))
      (C8.pss_cut (ps_set (i := 2) scMade.nd rfl (.inl rfl) (pe_op op_cat (pe_op op_cat (pe_op op_cat (pv 2) (md_lst (md_cons (new_at T.m13 T.t13 hr rfl T.g13 (pv 0)) pe_str md_nil))) (pe_slice sl_list (pv 1) (po_some pe_int) po_none)) (md_lst (md_cons (new_at T.m15 T.t15 hr rfl T.g15 (pv 0)) pe_str (md_cons (new_at T.m16 T.t16 hr rfl T.g16 (pv 0)) pe_str md_nil)))))
      (C8.pss_cut (ps_set (i := 2) scMade.nd rfl (.inl rfl) (pe_op op_cat (pv 2) (md_lst (md_cons (new_at T.m17 T.t17 hr rfl T.g17 (pv 0)) pe_str (md_cons (new_at T.m18 T.t18 hr rfl T.g18 (pv 0)) pe_str md_nil)))))
      (C8.pss_cut (ps_set (i := 2) scMade.nd rfl (.inl rfl) (pe_op op_cat (pv 2) (md_lst (md_cons (new_at T.m19 T.t19 hr rfl T.g19 (pv 0)) pe_str (md_cons (new_at T.m20 T.t20 hr rfl T.g20 (pv 0)) pe_str (md_cons (new_at T.m21 T.t21 hr rfl T.g21 (pv 0)) pe_str (md_cons (new_at T.m22 T.t22 hr rfl T.g22 (pv 0)) pe_str md_nil)))))))
      (C8.pss_cut (ps_set (i := 2) scMade.nd rfl (.inl rfl) (pe_op op_cat (pv 2) (md_lst (md_cons (new_bare T.e23 T.n23 rfl T.g23) pe_non (md_cons (new_at T.m24 T.t24 hr rfl T.g24 (pv 0)) pe_str (md_cons (new_bare T.e25 T.n25 rfl T.g25) pe_non (md_cons (new_at T.m26 T.t26 hr rfl T.g26 (pv 0)) pe_str md_nil)))))))
      (pss_one (ps_ret (pe_op op_cat (pv 2) (md_lst (md_cons (new_at T.m27 T.t27 hr rfl T.g27 (pv 0)) pe_str (md_cons (new_at T.m28 T.t28 hr rfl T.g28 (pv 0)) pe_str md_nil)))))))))))))), ?_⟩
    refine ⟨fun σ H1 => ∃ lb bs, σ = [some it, some (.ref lb), none] ∧ L2.Same H H1 ∧ H1 lb = some (.lst bs) ∧ MadeL ca it H1 bs bareS, ⟨it, rfl, fun l xs H1 s1 h1 m1 => ⟨l, xs, rfl, s1, h1, m1⟩⟩, ?_⟩
    rintro σ H1 ⟨lb, bs, rfl, s1, h1, m1⟩
    refine ⟨MidM ca it H [(2, none), (3, none), (4, some "path"), (5, some "path"), (6, some "path")], ?_, fun σ H1 m => ?_⟩
    · refine ⟨_, rfl, _, rfl, lb, bs, rfl, SqL.of h1, fun p hp => ⟨it, rfl, fun l2 ys H2 s2 h2 m2 => ⟨p, l2, _, ys, rfl, rfl, s2 _ _ upd_same, h2, ?_, fun p2 hp2 => ?_⟩⟩⟩
      · rw [cut2, (m1.take 2).len, m2.len]
        decide
      · simp only [cut2]
        have s3 := (same_new (o := .lst (cutV bs none (some 2))) hp).trans (s2.trans (same_new (o := .lst (bs.take 2 ++ ys)) hp2))
        exact ⟨p2, _, lb, bs, rfl, s1.trans s3, upd_same, ((m1.take 2).same s3).app (m2.same (same_new hp2)), s3 _ _ h1, m1.same s3⟩
    refine ⟨MidM ca it H [(2, none), (3, none), (4, some "path"), (5, some "path"), (6, some "path"), (7, some "path"), (8, some "path"), (9, some "path")], md_found m (by decide), fun σ H1 m => ?_⟩
    refine ⟨MidM ca it H [(2, none), (3, none), (4, some "path"), (5, some "path"), (6, some "path"), (7, some "path"), (8, some "path"), (9, some "path"), (10, some "count"), (11, some "name"), (12, some "name")], md_found m (by decide), fun σ H1 m => ?_⟩
    refine ⟨MidM ca it H [(2, none), (3, none), (4, some "path"), (5, some "path"), (6, some "path"), (7, some "path"), (8, some "path"), (9, some "path"), (10, some "count"), (11, some "name"), (12, some "name"), (13, some "call"), (14, none), (15, some "name"), (16, some "name")], ?_, fun σ H1 m => ?_⟩
    · obtain ⟨l, xs, lb, bs, rfl, s, h, mm, hb, mb⟩ := m
      refine ⟨_, rfl, it, rfl, fun l2 ys H2 s2 h2 m2 => ⟨l, l2, xs, ys, rfl, rfl, s2 _ _ h, h2, by rw [mm.len, m2.len]; decide, fun p hp => ?_⟩⟩
      have s3 := same_new (o := .lst (xs ++ ys)) hp
      refine ⟨_, rfl, _, rfl, lb, bs, rfl, SqL.of ((s2.trans s3) _ _ hb), fun p2 hp2 => ⟨p, p2, _, _, rfl, rfl, (same_new hp2) _ _ upd_same, upd_same, ?_, fun p3 hp3 => ⟨it, rfl, fun l4 zs H4 s4 h4 m4 => ⟨p3, l4, _, zs, rfl, rfl, s4 _ _ upd_same, h4, ?_, fun p5 hp5 => ?_⟩⟩⟩⟩
      · rw [drop2, List.length_append, mm.len, m2.len, (mb.drop 2).len]
        decide
      · rw [drop2, List.length_append, List.length_append, mm.len, m2.len, (mb.drop 2).len, m4.len]
        decide
      · simp only [drop2] at *
        have s5 := (same_new hp2).trans ((same_new hp3).trans (s4.trans (same_new (o := .lst (xs ++ ys ++ bs.drop 2 ++ zs)) hp5)))
        have s6 := s2.trans (s3.trans s5)
        exact ⟨p5, _, lb, bs, rfl, s.trans s6, upd_same, ((((mm.same s6).app (m2.same (s3.trans s5))).app ((mb.drop 2).same s6)).app (m4.same (same_new hp5))), s6 _ _ hb, mb.same s6⟩
    refine ⟨MidM ca it H [(2, none), (3, none), (4, some "path"), (5, some "path"), (6, some "path"), (7, some "path"), (8, some "path"), (9, some "path"), (10, some "count"), (11, some "name"), (12, some "name"), (13, some "call"), (14, none), (15, some "name"), (16, some "name"), (17, some "name"), (18, some "name")], md_found m (by decide), fun σ H1 m => ?_⟩
    refine ⟨MidM ca it H [(2, none), (3, none), (4, some "path"), (5, some "path"), (6, some "path"), (7, some "path"), (8, some "path"), (9, some "path"), (10, some "count"), (11, some "name"), (12, some "name"), (13, some "call"), (14, none), (15, some "name"), (16, some "name"), (17, some "name"), (18, some "name"), (19, some "name"), (20, some "name"), (21, some "name"), (22, some "name")], md_found m (by decide), fun σ H1 m => ?_⟩
    refine ⟨MidM ca it H [(2, none), (3, none), (4, some "path"), (5, some "path"), (6, some "path"), (7, some "path"), (8, some "path"), (9, some "path"), (10, some "count"), (11, some "name"), (12, some "name"), (13, some "call"), (14, none), (15, some "name"), (16, some "name"), (17, some "name"), (18, some "name"), (19, some "name"), (20, some "name"), (21, some "name"), (22, some "name"), (23, none), (24, some "name"), (25, none), (26, some "side")], md_found m (by decide), fun σ H1 m => ?_⟩
    obtain ⟨l, xs, lb, bs, rfl, s, h, mm, hb, mb⟩ := m
    refine ⟨_, rfl, it, rfl, fun l2 ys H2 s2 h2 m2 => ⟨l, l2, xs, ys, rfl, rfl, s2 _ _ h, h2, by rw [mm.len, m2.len]; decide, fun p hp => ?_⟩⟩
    have s3 := same_new (o := .lst (xs ++ ys)) hp
    exact kk p _ _ (s.trans (s2.trans s3)) upd_same (((mm.same s2).app m2).same s3)
theorem scNamed : FnScope ["it", "found"] ["it"] (defScope sNamed) := ⟨rfl, rfl, rfl, by decide +kernel, rfl, by decide +kernel, by decide +kernel⟩
theorem ok_named (F : Fun K "_law_named" "_law_named" sNamed f fd) (T : Txt P w K mg base ca) : FnG P w K mg base 3 f fd ["it"] (spNamed ca) := by
  refine .ofBody F scNamed (fun vs H Q h => ?_) (fun cdv A outer s H vs Q hg hr h => ?_)
  · obtain ⟨it, rfl, _⟩ := h
    rfl
  · obtain ⟨it, rfl, kk⟩ := h
    refine ⟨_, (C8.pss_cut (ps_set (i := 1) scNamed.nd rfl (.inl rfl) (nd_lst (nd_cons (new_kw T.m4 T.t4 hr rfl T.g4 (pv 0)) (nd_cons (new_kw T.m5 T.t5 hr rfl T.g5 (pv 0)) (nd_cons (new_kw T.m6 T.t6 hr rfl T.g6 (pv 0)) (nd_cons (new_kw T.m7 T.t7 hr rfl T.g7 (pv 0)) (nd_cons (new_kw T.m8 T.t8 hr rfl T.g8 (pv 0)) nd_nil)))))))
      (C8.pss_cut (ps_set (i := 1) scNamed.nd rfl (.inl rfl) (pe_op op_cat (pv 1) (nd_lst (nd_cons (new_kw T.m9 T.t9 hr rfl T.g9 (pv 0)) (nd_cons (new_kw T.m10 T.t10 hr rfl T.g10 (pv 0)) (nd_cons (new_kw T.m11 T.t11 hr rfl T.g11 (pv 0)) (nd_cons (new_kw T.m12 T.t12 hr rfl T.g12 (pv 0)) nd_nil)))))))
      (C8.pss_cut (ps_set (i := 1) scNamed.nd rfl (.inl rfl) (pe_op op_cat (pv 1) (nd_lst (nd_cons (new_kw T.m13 T.t13 hr rfl T.g13 (pv 0)) (nd_cons (new_kw T.m15 T.t15 hr rfl T.g15 (pv 0)) (nd_cons (new_kw T.m16 T.t16 hr rfl T.g16 (pv 0)) (nd_cons (new_kw T.m17 T.t17 hr rfl T.g17 (pv 0)) (nd_cons (new_kw T.m18 T.t18 hr rfl T.g18 (pv 0)) nd_nil))))))))
      (C8.pss_cut (ps_set (i := 1) scNamed.nd rfl (.inl rfl) (pe_op op_cat (pv 1) (nd_lst (nd_cons (new_kw T.m19 T.t19 hr rfl T.g19 (pv 0)) (nd_cons (new_kw T.m20 T.t20 hr rfl T.g20 (pv 0)) (nd_cons (new_kw T.m21 T.t21 hr rfl T.g21 (pv 0)) (nd_cons (new_kw T.m22 T.t22 hr rfl T.g22 (pv 0)) nd_nil)))))))
      (C8.pss_cut (ps_set (i := 1) scNamed.nd rfl (.inl rfl) (pe_op op_cat (pv 1) (nd_lst (nd_cons (new_kw T.m24 T.t24 hr rfl T.g24 (pv 0)) (nd_cons (new_kw T.m26 T.t26 hr rfl T.g26 (pv 0)) nd_nil)))))
      (pss_one (ps_ret (pe_op op_cat (pv 1) (nd_lst (nd_cons (new_kw T.m27 T.t27 hr rfl T.g27 (pv 0)) (nd_cons (new_kw T.m28 T.t28 hr rfl T.g28 (pv 0)) nd_nil))))))))))), ?_⟩
    refine ⟨MidN ca it H [(4, some "path"), (5, some "path"), (6, some "path"), (7, some "path"), (8, some "path")], ⟨it, rfl, fun l xs H1 s1 h1 m1 => ⟨l, xs, rfl, s1, h1, m1⟩⟩, fun σ H1 m => ?_⟩
    refine ⟨MidN ca it H [(4, some "path"), (5, some "path"), (6, some "path"), (7, some "path"), (8, some "path"), (9, some "path"), (10, some "count"), (11, some "name"), (12, some "name")], nd_found m (by decide), fun σ H1 m => ?_⟩
    refine ⟨MidN ca it H [(4, some "path"), (5, some "path"), (6, some "path"), (7, some "path"), (8, some "path"), (9, some "path"), (10, some "count"), (11, some "name"), (12, some "name"), (13, some "call"), (15, some "name"), (16, some "name"), (17, some "name"), (18, some "name")], nd_found m (by decide), fun σ H1 m => ?_⟩
    refine ⟨MidN ca it H [(4, some "path"), (5, some "path"), (6, some "path"), (7, some "path"), (8, some "path"), (9, some "path"), (10, some "count"), (11, some "name"), (12, some "name"), (13, some "call"), (15, some "name"), (16, some "name"), (17, some "name"), (18, some "name"), (19, some "name"), (20, some "name"), (21, some "name"), (22, some "name")], nd_found m (by decide), fun σ H1 m => ?_⟩
    refine ⟨MidN ca it H [(4, some "path"), (5, some "path"), (6, some "path"), (7, some "path"), (8, some "path"), (9, some "path"), (10, some "count"), (11, some "name"), (12, some "name"), (13, some "call"), (15, some "name"), (16, some "name"), (17, some "name"), (18, some "name"), (19, some "name"), (20, some "name"), (21, some "name"), (22, some "name"), (24, some "name"), (26, some "side")], nd_found m (by decide), fun σ H1 m => ?_⟩
    obtain ⟨l, xs, rfl, s, h, mm⟩ := m
    refine ⟨_, rfl, it, rfl, fun l2 ys H2 s2 h2 m2 => ⟨l, l2, xs, ys, rfl, rfl, s2 _ _ h, h2, by rw [mm.len, m2.len]; decide, fun p hp => ?_⟩⟩
    have s3 := same_new (o := .lst (xs ++ ys)) hp
    exact kk p _ _ (s.trans (s2.trans s3)) upd_same (((mm.same s2).app m2).same s3)
theorem scKinds : FnScope ["e", "found"] ["e"] (defScope sKinds) := ⟨rfl, rfl, rfl, by decide +kernel, rfl, by decide +kernel, by decide +kernel⟩
theorem ok_kinds (F : Fun K "_law_kinds" "_law_kinds" sKinds f fd) (T : Txt P w K mg base ca) : FnG P w K mg base 1 f fd ["e"] (spKinds ca) := by
  refine .ofBody F scKinds (fun vs H Q h => ?_) (fun cdv A outer s H vs Q hg hr h => ?_)
  · obtain ⟨a, i, fv, rfl, _⟩ := h
    rfl
  · obtain ⟨a, i, fv, rfl, hx, hi, kk⟩ := h
    refine ⟨_, (C8.pss_cut (ps_set (i := 1) scKinds.nd rfl (.inl rfl) (pe_lst (kd_cons T.is T.kit (pe_callB call_is (by rfl) T.isi (by decide +kernel) (pa_cons (pv 0) (pa_cons (pe_glob rfl T.g2 rfl) pa_nil))) (kd_cons T.is T.kit (pe_callB call_is (by rfl) T.isi (by decide +kernel) (pa_cons (pv 0) (pa_cons (pe_glob rfl T.g3 rfl) pa_nil))) (kd_cons T.is T.kit (pe_callB call_is (by rfl) T.isi (by decide +kernel) (pa_cons (pv 0) (pa_cons (pe_glob rfl T.g4 rfl) pa_nil))) kd_nil)))))
      (C8.pss_cut (ps_set (i := 1) scKinds.nd rfl (.inl rfl) (pe_op op_cat (pv 1) (pe_lst (kd_cons T.is T.kit (pe_callB call_is (by rfl) T.isi (by decide +kernel) (pa_cons (pv 0) (pa_cons (pe_glob rfl T.g5 rfl) pa_nil))) (kd_cons T.is T.kit (pe_callB call_is (by rfl) T.isi (by decide +kernel) (pa_cons (pv 0) (pa_cons (pe_glob rfl T.g6 rfl) pa_nil))) (kd_cons T.is T.kit (pe_callB call_is (by rfl) T.isi (by decide +kernel) (pa_cons (pv 0) (pa_cons (pe_glob rfl T.g7 rfl) pa_nil))) kd_nil))))))
      (C8.pss_cut (ps_set (i := 1) scKinds.nd rfl (.inl rfl) (pe_op op_cat (pv 1) (pe_lst (kd_cons T.is T.kit (pe_callB call_is (by rfl) T.isi (by decide +kernel) (pa_cons (pv 0) (pa_cons (pe_glob rfl T.g8 rfl) pa_nil))) kd_nil))))
      (C8.pss_cut (ps_set (i := 1) scKinds.nd rfl (.inl rfl) (pe_op op_cat (pv 1) (pe_lst (kd_cons T.is T.kit (pe_callB call_is (by rfl) T.isi (by decide +kernel) (pa_cons (pv 0) (pa_cons (pe_glob rfl T.g9 rfl) pa_nil))) (kd_cons T.is T.kit (pe_callB call_is (by rfl) T.isi (by decide +kernel) (pa_cons (pv 0) (pa_cons (pe_glob rfl T.g10 rfl) pa_nil))) (kd_cons T.is T.kit (pe_callB call_is (by rfl) T.isi (by decide +kernel) (pa_cons (pv 0) (pa_cons (pe_glob rfl T.g11 rfl) pa_nil))) kd_nil))))))
      (C8.pss_cut (ps_set (i := 1) scKinds.nd rfl (.inl rfl) (pe_op op_cat (pv 1) (pe_lst (kd_cons T.is T.kit (pe_callB call_is (by rfl) T.isi (by decide +kernel) (pa_cons (pv 0) (pa_cons (pe_glob rfl T.g12 rfl) pa_nil))) (kd_cons T.is T.kit (pe_callB call_is (by rfl) T.isi (by decide +kernel) (pa_cons (pv 0) (pa_cons (pe_glob rfl T.g13 rfl) pa_nil))) (kd_cons T.is T.kit (pe_callB call_is (by rfl) T.isi (by decide +kernel) (pa_cons (pv 0) (pa_cons (pe_glob rfl T.g14 rfl) pa_nil))) kd_nil))))))
      (C8.pss_cut (ps_set (i := 1) scKinds.nd rfl (.inl rfl) (pe_op op_cat (pv 1) (pe_lst (kd_cons T.is T.kit (pe_callB call_is (by rfl) T.isi (by decide +kernel) (pa_cons (pv 0) (pa_cons (pe_glob rfl T.g15 rfl) pa_nil))) (kd_cons T.is T.kit (pe_callB call_is (by rfl) T.isi (by decide +kernel) (pa_cons (pv 0) (pa_cons (pe_glob rfl T.g16 rfl) pa_nil))) (kd_cons T.is T.kit (pe_callB call_is (by rfl) T.isi (by decide +kernel) (pa_cons (pv 0) (pa_cons (pe_glob rfl T.g17 rfl) pa_nil))) kd_nil))))))
      (C8.pss_cut (ps_set (i := 1) scKinds.nd rfl (.inl rfl) (pe_op op_cat (pv 1) (pe_lst (kd_cons T.is T.kit (pe_callB call_is (by rfl) T.isi (by decide +kernel) (pa_cons (pv 0) (pa_cons (pe_glob rfl T.g18 rfl) pa_nil))) (kd_cons T.is T.kit (pe_callB call_is (by rfl) T.isi (by decide +kernel) (pa_cons (pv 0) (pa_cons (pe_glob rfl T.g19 rfl) pa_nil))) (kd_cons T.is T.kit (pe_callB call_is (by rfl) T.isi (by decide +kernel) (pa_cons (pv 0) (pa_cons (pe_glob rfl T.g20 rfl) pa_nil))) (kd_cons T.is T.kit (pe_callB call_is (by rfl) T.isi (by decide +kernel) (pa_cons (pv 0) (pa_cons (pe_glob rfl T.g21 rfl) pa_nil))) kd_nil)))))))
      (C8.pss_cut (ps_set (i := 1) scKinds.nd rfl (.inl rfl) (pe_op op_cat (pv 1) (pe_lst (kd_cons T.is T.kit (pe_callB call_is (by rfl) T.isi (by decide +kernel) (pa_cons (pv 0) (pa_cons (pe_glob rfl T.g22 rfl) pa_nil))) (kd_cons T.is T.kit (pe_callB call_is (by rfl) T.isi (by decide +kernel) (pa_cons (pv 0) (pa_cons (pe_glob rfl T.g23 rfl) pa_nil))) (kd_cons T.is T.kit (pe_callB call_is (by rfl) T.isi (by decide +kernel) (pa_cons (pv 0) (pa_cons (pe_glob rfl T.g24 rfl) pa_nil))) kd_nil))))))
      (C8.pss_cut (ps_set (i := 1) scKinds.nd rfl (.inl rfl) (pe_op op_cat (pv 1) (pe_lst (kd_cons T.is T.kit (pe_callB call_is (by rfl) T.isi (by decide +kernel) (pa_cons (pv 0) (pa_cons (pe_glob rfl T.g25 rfl) pa_nil))) (kd_cons T.is T.kit (pe_callB call_is (by rfl) T.isi (by decide +kernel) (pa_cons (pv 0) (pa_cons (pe_glob rfl T.g26 rfl) pa_nil))) kd_nil)))))
      (pss_one (ps_ret (pe_op op_cat (pv 1) (pe_lst (kd_cons T.is T.kit (pe_callB call_is (by rfl) T.isi (by decide +kernel) (pa_cons (pv 0) (pa_cons (pe_glob rfl T.g27 rfl) pa_nil))) (kd_cons T.is T.kit (pe_callB call_is (by rfl) T.isi (by decide +kernel) (pa_cons (pv 0) (pa_cons (pe_glob rfl T.g28 rfl) pa_nil))) kd_nil))))))))))))))), ?_⟩
    refine ⟨MidK a i H [2, 3, 4], ⟨a, i, fv, rfl, hx, hi, by decide, (by unfold kv; simp only [List.length_map]; decide), fun p hp => ⟨p, rfl, same_new hp, upd_same⟩⟩, fun σ H1 m => ?_⟩
    refine ⟨MidK a i H [2, 3, 4, 5, 6, 7], kd_found hx hi m (by decide) (by decide), fun σ H1 m => ?_⟩
    refine ⟨MidK a i H [2, 3, 4, 5, 6, 7, 8], kd_found hx hi m (by decide) (by decide), fun σ H1 m => ?_⟩
    refine ⟨MidK a i H [2, 3, 4, 5, 6, 7, 8, 9, 10, 11], kd_found hx hi m (by decide) (by decide), fun σ H1 m => ?_⟩
    refine ⟨MidK a i H [2, 3, 4, 5, 6, 7, 8, 9, 10, 11, 12, 13, 14], kd_found hx hi m (by decide) (by decide), fun σ H1 m => ?_⟩
    refine ⟨MidK a i H [2, 3, 4, 5, 6, 7, 8, 9, 10, 11, 12, 13, 14, 15, 16, 17], kd_found hx hi m (by decide) (by decide), fun σ H1 m => ?_⟩
    refine ⟨MidK a i H [2, 3, 4, 5, 6, 7, 8, 9, 10, 11, 12, 13, 14, 15, 16, 17, 18, 19, 20, 21], kd_found hx hi m (by decide) (by decide), fun σ H1 m => ?_⟩
    refine ⟨MidK a i H [2, 3, 4, 5, 6, 7, 8, 9, 10, 11, 12, 13, 14, 15, 16, 17, 18, 19, 20, 21, 22, 23, 24], kd_found hx hi m (by decide) (by decide), fun σ H1 m => ?_⟩
    refine ⟨MidK a i H [2, 3, 4, 5, 6, 7, 8, 9, 10, 11, 12, 13, 14, 15, 16, 17, 18, 19, 20, 21, 22, 23, 24, 25, 26], kd_found hx hi m (by decide) (by decide), fun σ H1 m => ?_⟩
    obtain ⟨l, rfl, s, h⟩ := m
    refine ⟨_, rfl, a, i, fv, rfl, hx.same s, hi, by decide, (by unfold kv; simp only [List.length_map]; decide), fun p hp => ⟨l, p, _, _, rfl, rfl, (same_new hp) _ _ h, upd_same, (by unfold kv; simp only [List.length_map]; decide), fun p2 hp2 => ?_⟩⟩
    exact kk p2 _ (s.trans ((same_new hp).trans (same_new hp2))) (by rw [upd_same]; unfold kv; rw [← List.map_append]; rfl)
theorem scCarried : FnScope ["e", "word"] ["e", "word"] (defScope sCarried) := ⟨rfl, rfl, rfl, by decide +kernel, rfl, by decide +kernel, by decide +kernel⟩
theorem ok_carried (F : Fun K "_law_carried" "_law_carried" sCarried f fd) (T : Txt P w K mg base ca) : FnG P w K mg base 1 f fd ["e", "word"] (spCarried ca) := by
  refine .ofBody F scCarried (fun vs H Q h => ?_) (fun cdv A outer s H vs Q hg hr h => ?_)
  · obtain ⟨a, i, x, v, rfl, _⟩ := h
    rfl
  · obtain ⟨a, i, x, v, rfl, hp, hx, kk⟩ := h
    have hi : ExcC K (ca i) := T.is i (spec_all hp)
    have hn : PySem.W.findIn K (.ref (ca i)) x = some none := T.no _ hp _ rfl
    refine ⟨_, pss_cons (ps_if (pt_cmpR op_eq (pv 1) pe_str (nomark _)) (pss_one (ps_ret (pe_gt (pv 0)))) pss_nil)
      (pss_cons (ps_if (pt_cmpR op_eq (pv 1) pe_str (nomark _)) (pss_one (ps_ret (pe_gt (pv 0)))) pss_nil)
      (pss_cons (ps_if (pt_cmpR op_eq (pv 1) pe_str (nomark _)) (pss_one (ps_ret (pe_gt (pv 0)))) pss_nil)
      (pss_one (ps_ret (pe_ifExp (pt_cmpR op_eq (pv 1) pe_str (nomark _)) (pe_gt (pv 0)) (pe_gt (pv 0))))))), ?_⟩
    have fin : tGt K x (tVar 0) [some (.ref a), some (.str x)] H Q := ⟨_, rfl, a, ca i, v, rfl, hi, hn, hx, kk⟩
    refine ⟨_, rfl, rfl, _, rfl, ite2 (fun z => ?_) (fun z => ?_)⟩
    · obtain rfl : x = "path" := V.str.inj (of_decide_eq_true z)
      exact fin
    refine ⟨_, rfl, rfl, _, rfl, ite2 (fun z2 => ?_) (fun z2 => ?_)⟩
    · obtain rfl : x = "name" := V.str.inj (of_decide_eq_true z2)
      exact fin
    refine ⟨_, rfl, rfl, _, rfl, ite2 (fun z3 => ?_) (fun z3 => ?_)⟩
    · obtain rfl : x = "side" := V.str.inj (of_decide_eq_true z3)
      exact fin
    refine ⟨_, rfl, rfl, _, rfl, ite2 (fun z4 => ?_) (fun z4 => ?_)⟩
    · obtain rfl : x = "call" := V.str.inj (of_decide_eq_true z4)
      exact fin
    · have e : x = "count" := by
        rcases spec_words hp with rfl | rfl | rfl | rfl | rfl
        · exact absurd (decide_eq_true rfl) z
        · exact absurd (decide_eq_true rfl) z2
        · exact absurd (decide_eq_true rfl) z3
        · exact absurd (decide_eq_true rfl) z4
        · rfl
      subst e
      exact fin
end
end K68
namespace K68
open PySem PySem.Spec PyProof.Rows L2 Gd Ex Dt
/-! ### lists of bools beside each other -/
def dl (bs : List Bool) : PyData := .list (bs.map PyData.bool)
theorem dp_bools {K : PySem.W.Frag} {H : Hp} : ∀ bs : List Bool, DpAll K H (bs.map V.bl) (bs.map PyData.bool)
  | [] => .nil
  | b :: bs => .cons (.bl b) (dp_bools bs)
theorem lay_bools : ∀ bs : List Bool, PyData.canLayAll0 (bs.map PyData.bool) = true
  | [] => by simp [PyData.canLayAll0]
  | b :: bs => by simp [PyData.canLayAll0, PyData.canLay0, lay_bools bs]
theorem deep_bools : ∀ bs : List Bool, PyData.depthAll (bs.map PyData.bool) = 0
  | [] => by simp [PyData.depthAll]
  | b :: bs => by simp [PyData.depthAll, PyData.depth, deep_bools bs]
theorem lay_dl (bs : List Bool) : (dl bs).canLay0 = true := by simp [dl, PyData.canLay0, lay_bools bs]
theorem shaped_dl (bs : List Bool) : SeqAt.shaped (dl bs) = true := by
  unfold SeqAt.shaped
  rw [lay_dl, dl, PyData.depth, deep_bools]
  rfl
theorem ne_bools {K : PySem.W.Frag} {a b : Addr} {bs : List Bool} {H : Hp} {Q : VK} (ha : H a = some (.lst (bs.map V.bl))) (hb : H b = some (.lst (bs.map V.bl))) (q : Q (.bl false) H) : rNeD K (.ref a) (.ref b) H Q := by
  refine ⟨dl bs, dl bs, .lst (SqL.of ha) (dp_bools bs), .lst (SqL.of hb) (dp_bools bs), shaped_dl bs, shaped_dl bs, ?_⟩
  rw [SeqAt.eqv_refl _ (lay_dl bs)]
  exact q
/-- the builtin names of the law's end -/
structure Tr (mg : Str → Option Value) : Prop where
  rep : mg "repr" = none
  enum : mg "enumerate" = none
  range : mg "range" = none
  zip : mg "zip" = none
def spRight (K : PySem.W.Frag) : Sp := fun vs H Q _ => ∃ it, vs = [it] ∧ Odd K H it ∧ ∀ H', L2.Same H H' → Q (.bl true) H'
section
variable {P : Program} {w : World} {K : PySem.W.Frag} {mg : Str → Option Value} {base : Heap} {ca : Nat → Addr} {f : Addr} {fd : FuncData}
abbrev nRight : List Str := ["it", "made", "kept", "k", "e", "word", "own", "bases", "words", "j"]
theorem scRight : FnScope nRight ["it"] (defScope sRight) := ⟨rfl, rfl, rfl, by decide +kernel, rfl, by decide +kernel, by decide +kernel⟩
theorem dx_mono {K : PySem.W.Frag} {H H' : Hp} {v : V} {d : PyData} (s : L2.Same H H') (h : Dx K H v d) : Dx K H' v d := dx_same s _ _ h
theorem specs_at : ∀ k, k < 27 → (specs[k]?.map Prod.fst) = some (k + 2) := by decide
theorem own_kv : ∀ k, k < 27 → kv (k + 2) subC = ((List.range 27).map fun j => decide (k = j)).map V.bl := by decide
theorem yes {A B : Prop} (h : A) : if true = true then A else B := by rw [if_pos rfl]; exact h
theorem no {A B : Prop} (h : B) : if false = true then A else B := by rw [if_neg (by decide)]; exact h
def wds : List Str := specs.filterMap Prod.snd
theorem wds_at : ∀ k, k < 22 → specsN[k]?.map Prod.snd = some (wds[k]?) := by decide +kernel
theorem wds_len : wds.length = 22 := by decide
theorem wds_step {n : Nat} {p : Nat × Option Str} (h : specs[n]? = some p) : (specs.take (n + 1)).filterMap Prod.snd = (specs.take n).filterMap Prod.snd ++ p.2.toList := by
  rw [List.take_succ, List.filterMap_append, h]
  cases p with
  | mk a b => cases b <;> rfl
def MidR (ca : Nat → Addr) (it : V) (d : PyData) (H : Hp) : L2.St → Hp → Prop := fun σ H1 => ∃ l xs, σ = [some it, some (.ref l), some (.str d.shown), none, none, none, none, none, none, none] ∧ L2.Same H H1 ∧ H1 l = some (.lst xs) ∧ MadeL ca it H1 xs specs
theorem ok_right (F : Fun K "_law_right" "_law_right" sRight f fd) {fM fN fC fK : Addr} {dM dN dC dK : FuncData} (CM : Cal P w K mg base 3 "_law_made" ["it"] (spMade ca) fM dM) (CN : Cal P w K mg base 3 "_law_named" ["it"] (spNamed ca) fN dN)
    (CC : Cal P w K mg base 1 "_law_carried" ["e", "word"] (spCarried ca) fC dC) (CK : Cal P w K mg base 1 "_law_kinds" ["e"] (spKinds ca) fK dK) (T : Txt P w K mg base ca) (R : Tr mg) (N : Tn mg) : FnG P w K mg base 4 f fd ["it"] (spRight K) := by
  refine .ofBody F scRight (fun vs H Q h => ?_) (fun cdv A outer s H vs Q hg hr h => ?_)
  · obtain ⟨it, rfl, _⟩ := h
    rfl
  · obtain ⟨it, rfl, ⟨d, hd, hgd⟩, kk⟩ := h
    have nd := scRight.nd
    have h1 := hr.mono (show 1 ≤ 3 by decide)
    refine ⟨_, C8.pss_cut (ps_par (i := 1) (j := 2) (by rfl) nd rfl rfl (by decide) rfl rfl (pa_cons (pe_callG CM.ok hr hg rfl CM.g CM.kp CM.b (pa_cons (pv 0) pa_nil)) (pa_cons (pe_callB (call_repr hg hr.units) (by rfl) R.rep (by decide +kernel) (pa_cons (pv 0) pa_nil)) pa_nil)) (by rfl))
      (C8.pss_cut (ps_for PassesOwn.never rfl (pi_enum (by rfl) R.enum (pa_cons (pv 1) pa_nil)) (pg_tup rfl (pgs_cons (pg_name (i := 3) nd rfl (.inr rfl)) (pgs_cons (pg_tup rfl (pgs_cons (pg_name (i := 4) nd rfl (.inl rfl)) (pgs_cons (pg_name (i := 5) nd rfl (.inl rfl)) pgs_nil))) pgs_nil)))
        (C8.pss_cut (ps_setLc (i := 6) (own := [("j", 9)]) (g := gName 9) (tt := tYes) (by rfl) nd rfl rfl (sw_true rfl rfl rfl (by decide +kernel)) (pi_range1 (by rfl) R.range (pa_cons (pe_callB call_len_seq (by rfl) N.len PySem.boot_len (pa_cons (pv 1) pa_nil)) pa_nil)) (blkOk_by (N := nRight) (sc := defScope sRight) (by decide +kernel)) (fun _ _ _ _ _ => pg_name (i := 9) nd rfl (Or.inl rfl)) (fun _ _ _ _ _ => pts_nil) (fun _ _ _ _ _ => pe_cmpR op_eq (pv 3) (pv 9) (nomark _)))
        (C8.pss_cut (ps_set (i := 7) nd rfl (.inl rfl) (pe_lst (pa_cons (pe_callB call_is (by rfl) T.isi (by decide +kernel) (pa_cons (pv 4) (pa_cons (pe_glob (v := .ref (ca 1)) rfl T.g1 rfl) pa_nil))) (pa_cons (pe_callB call_is (by rfl) T.isi (by decide +kernel) (pa_cons (pv 4) (pa_cons (pe_bltn rfl T.val (by decide +kernel) (v := .ty "ValueError") rfl) pa_nil))) (pa_cons (pe_callB call_is (by rfl) T.isi (by decide +kernel) (pa_cons (pv 4) (pa_cons (pe_bltn rfl T.key (by decide +kernel) (v := .ty "KeyError") rfl) pa_nil))) pa_nil)))))
        (C8.pss_cut (ps_if (PW.pt (pw_or (pt_cmpR (op_neD hr.units) (pe_callG CK.ok h1 hg rfl CK.g CK.kp CK.b (pa_cons (pv 4) pa_nil)) (pv 6) (nomark _)) (pw_or1 (pt_cmpR (op_neD hr.units) (pv 7) (pe_lst (pa_cons (pe_cmp (pc_lt (pv 3) pe_int)) (pa_cons (pe_cmp (pc_lt (pv 3) pe_int)) (pa_cons (pe_cmp (pc_ge (pv 3) pe_int)) pa_nil)))) (nomark _))))) (pss_one (ps_ret pe_bl)) pss_nil)
        (pss_one (ps_if (PW.pt (pw_and (pt_cmp (pc_notN (pv 5))) (pw_and1 (pt_cmpR op_ne (pe_callB (call_repr hg hr.units) (by rfl) R.rep (by decide +kernel) (pa_cons (pe_callG CC.ok h1 hg rfl CC.g CC.kp CC.b (pa_cons (pv 4) (pa_cons (pv 5) pa_nil))) pa_nil)) (pv 2) (nomark _))))) (pss_one (ps_ret pe_bl)) pss_nil))))))
      (C8.pss_cut (ps_setLc (i := 8) (own := [("e", 4), ("word", 5)]) (g := gTup K 2 (gCons (gName 4) (gCons (gName 5) gNil))) (by rfl) nd rfl rfl (sw_true rfl rfl rfl (by decide +kernel)) (pi_list (pv 1)) (blkOk_by (N := nRight) (sc := defScope sRight) (by decide +kernel)) (fun _ _ _ _ _ => pg_tup rfl (pgs_cons (pg_name (i := 4) nd rfl (Or.inl rfl)) (pgs_cons (pg_name (i := 5) nd rfl (Or.inl rfl)) pgs_nil))) (fun _ _ _ _ _ => pts_one (pt_cmp (pc_notN (pv 5)))) (fun _ _ _ _ _ => pv 5))
      (C8.pss_cut (ps_for PassesOwn.never rfl (pi_zip (by rfl) R.zip (pa_cons (pe_callG CN.ok hr hg rfl CN.g CN.kp CN.b (pa_cons (pv 0) pa_nil)) (pa_cons (pv 8) pa_nil))) (pg_tup rfl (pgs_cons (pg_name (i := 4) nd rfl (.inl rfl)) (pgs_cons (pg_name (i := 5) nd rfl (.inl rfl)) pgs_nil)))
        (pss_one (ps_if (pt_cmpR op_ne (pe_callB (call_repr hg hr.units) (by rfl) R.rep (by decide +kernel) (pa_cons (pe_callG CC.ok h1 hg rfl CC.g CC.kp CC.b (pa_cons (pv 4) (pa_cons (pv 5) pa_nil))) pa_nil)) (pv 2) (nomark _)) (pss_one (ps_ret pe_bl)) pss_nil)))
      (pss_one (ps_ret (pe_cmpR op_eq (pe_callB (call_repr hg hr.units) (by rfl) R.rep (by decide +kernel) (pa_cons (pv 0) pa_nil)) (pv 2) (nomark _))))))), ?_⟩
    refine ⟨MidR ca it d H, ?_, fun σ H1 m => ?_⟩
    · refine ⟨_, rfl, it, rfl, fun l xs H1 s1 hl hm => ⟨_, rfl, it, d, rfl, dx_mono s1 hd, hgd.1, hgd.2.1, hgd.2.2.1, hgd.2.2.2, ⟨_, _, rfl, l, xs, rfl, s1, hl, hm⟩⟩⟩
    obtain ⟨l, xs, rfl, s1, hl, hm⟩ := m
    have hlen : xs.length = 27 := hm.len
    let Inv : L2.St → Hp → Prop := fun σ H' => ∃ v3 v4 v5 v6 v7, σ = [some it, some (.ref l), some (.str d.shown), v3, v4, v5, v6, v7, none, none] ∧ L2.Same H1 H'
    refine ⟨Inv, ?_, fun σ H2 m => ?_⟩
    · refine ⟨_, rfl, l, xs, rfl, SqL.of hl, for_it walk_enum (fun _ => Inv) ⟨_, _, _, _, _, rfl, L2.Same.refl _⟩ (fun i σ H' _ ⟨_, _, _, _, _, _, e⟩ => SqL.of (e _ _ hl)) ?_ (fun σ H' h => h)⟩
      rintro i x σ H2 H3 hi ⟨v3, v4, v5, v6, v7, rfl, s2⟩ ⟨tt, _, t, rfl, hn, rfl, ⟨⟩, hx⟩
      obtain ⟨p, t2, e, hp, rfl, ht2, he⟩ := hm.get hx
      have s3 := s2.trans (same_new (o := .tup [.int (i : Int), .ref t2]) hn)
      refine ⟨tt, _, rfl, SqT.of upd_same, rfl, _, _, rfl, _, _, rfl, t2, _, rfl, SqT.of (s3 _ _ ht2), rfl, _, _, rfl, _, _, rfl, rfl, rfl, ?_⟩
      have hi27 : i < 27 := by omega
      obtain ⟨pi, po⟩ := p
      obtain rfl : pi = i + 2 := by
        have z := specs_at i hi27
        rw [hp] at z
        exact Option.some.inj z
      have hall := spec_all (List.mem_of_getElem? hp)
      have s4 : L2.Same H1 (upd H2 tt (.tup [.int (i : Int), .ref t2])) := s3
      refine ⟨fun σ H' => ∃ lo, σ = [some it, some (.ref l), some (.str d.shown), some (.int i), some (.ref e), some (wordV po), some (.ref lo), v7, none, none] ∧ L2.Same H1 H' ∧ H' lo = some (.lst (((List.range 27).map fun j => decide (i = j)).map V.bl)), ?_, fun σ H4 m => ?_⟩
      · refine ⟨_, rfl, l, xs, rfl, .inl (SqL.of (s4 _ _ hl)), _, rfl, by rw [hlen]; decide, by rw [hlen]; decide, fun D hD => ?_⟩
        refine lc_it walk_range (fun n H' => H' = upd (upd H2 tt (.tup [.int (i : Int), .ref t2])) D (.lst (((List.range n).map fun j => decide (i = j)).map V.bl))) rfl (fun _ _ _ _ => trivial) ?_ ?_
        · rintro n x H5 H6 hn5 rfl ⟨rfl, rfl⟩
          refine ⟨rfl, ?_⟩
          simp only [tYes, if_true]
          refine ⟨_, rfl, _, rfl, rfl, _, upd_same, ?_, ?_⟩
          · rw [List.length_map, List.length_map, List.length_range]
            have : (xs.length : Int).toNat = 27 := by rw [hlen]; rfl
            rw [this] at hn5
            exact Nat.le_trans hn5 (by decide)
          · rw [upd_upd, List.range_succ, List.map_append, List.map_append]
            have e2 : decide (V.int (i : Int) = V.int (0 + (n : Int))) = decide (i = n) := by
              rw [Bool.eq_iff_iff]
              simp
              omega
            rw [e2]
            rfl
        · rintro H5 rfl
          refine ⟨D, ?_, s4.trans (same_new hD), ?_⟩
          · rfl
          · rw [upd_same, hlen]
            rfl
      obtain ⟨lo, rfl, s5, hlo⟩ := m
      refine ⟨fun σ H' => ∃ lb, σ = [some it, some (.ref l), some (.str d.shown), some (.int i), some (.ref e), some (wordV po), some (.ref lo), some (.ref lb), none, none] ∧ L2.Same H1 H' ∧ H' lo = some (.lst (((List.range 27).map fun j => decide (i = j)).map V.bl)) ∧
        H' lb = some (.lst ([decide (i + 2 < 27), decide (i + 2 < 27), decide (27 ≤ i + 2)].map V.bl)), ?_, fun σ H5 m => ?_⟩
      · have he4 := he.same s5
        refine ⟨_, rfl, e, ca (i + 2), _, _, _, _, rfl, he4, T.is _ hall, fun u hu => hu, T.kitR _ hall, _, rfl, e, ca (i + 2), _, _, _, _, rfl, he4, T.is _ hall, fun u hu => hu, T.kitV _ hall, _, rfl, e, ca (i + 2), _, _, _, _, rfl, he4, T.is _ hall, fun u hu => hu, T.kitK _ hall, ?_, fun lb hlb => ?_⟩
        · show 3 ≤ sizeLine
          decide
        · exact ⟨lb, rfl, s5.trans (same_new hlb), (same_new hlb) _ _ hlo, upd_same⟩
      obtain ⟨lb, rfl, s6, hlo6, hlb⟩ := m
      refine ⟨fun σ H' => σ = [some it, some (.ref l), some (.str d.shown), some (.int i), some (.ref e), some (wordV po), some (.ref lo), some (.ref lb), none, none] ∧ L2.Same H1 H', ?_, fun σ H6 m => ?_⟩
      · refine ⟨_, rfl, e, i + 2, _, rfl, he.same s6, hall, fun lk H7 s7 hk => ⟨_, rfl, ?_⟩⟩
        rw [own_kv i hi27] at hk
        refine ne_bools hk (s7 _ _ hlo6) ⟨false, rfl, no ?_⟩
        refine ⟨_, rfl, _, rfl, _, _, rfl, rfl, _, rfl, _, _, rfl, rfl, _, rfl, _, _, rfl, rfl, ?_, fun l3 hl3 => ?_⟩
        · show 3 ≤ sizeLine
          decide
        · have e1 : decide ((i : Int) < 25) = decide (i + 2 < 27) := by
            rw [decide_eq_decide]
            omega
          have e2 : decide ((25 : Int) ≤ (i : Int)) = decide (27 ≤ i + 2) := by
            rw [decide_eq_decide]
            omega
          refine ne_bools (bs := [decide (i + 2 < 27), decide (i + 2 < 27), decide (27 ≤ i + 2)]) ((same_new hl3) _ _ (s7 _ _ hlb)) ?_ ⟨false, rfl, no ⟨rfl, s6.trans (s7.trans (same_new hl3))⟩⟩
          rw [upd_same]
          simp only [e1, e2]
          rfl
      obtain ⟨rfl, s7⟩ := m
      cases po with
      | none => exact ⟨_, rfl, false, rfl, no (no ⟨_, _, _, _, _, rfl, s7⟩)⟩
      | some x => exact ⟨_, rfl, true, rfl, yes ⟨_, rfl, _, rfl, e, i + 2, x, it, rfl, List.mem_of_getElem? hp, he.same s7, it, d, rfl, dx_mono (s1.trans s7) hd, hgd.1, hgd.2.1, hgd.2.2.1, hgd.2.2.2, _, rfl, rfl, false, by simp, no ⟨_, _, _, _, _, rfl, s7⟩⟩⟩
    obtain ⟨v3, v4, v5, v6, v7, rfl, s2⟩ := m
    refine ⟨fun σ H' => ∃ lw, σ = [some it, some (.ref l), some (.str d.shown), v3, v4, v5, v6, v7, some (.ref lw), none] ∧ L2.Same H1 H' ∧ H' lw = some (.lst (wds.map V.str)), ?_, fun σ H3 m => ?_⟩
    · refine ⟨_, rfl, l, rfl, ⟨xs, SqL.of (s2 _ _ hl)⟩, fun D hD => ?_⟩
      refine lc_it (walk_list (xs := xs)) (fun n H' => H' = upd H2 D (.lst (((specs.take n).filterMap Prod.snd).map V.str))) rfl (fun n H' _ e => by rw [e]; exact SqL.of ((s2.trans (same_new hD)) _ _ hl)) ?_ ?_
      · rintro n x H4 H5 hn rfl ⟨rfl, hx⟩
        obtain ⟨⟨pi, po⟩, t2, e, hp, rfl, ht2, he⟩ := hm.get hx
        have st := wds_step hp
        refine ⟨t2, _, rfl, SqT.of ((s2.trans (same_new hD)) _ _ ht2), rfl, _, _, rfl, _, _, rfl, rfl, rfl, _, rfl, ?_⟩
        cases po with
        | none =>
          refine ⟨false, rfl, no ?_⟩
          rw [st]
          simp
        | some y =>
          refine ⟨true, rfl, yes ⟨_, rfl, _, upd_same, ?_, ?_⟩⟩
          · rw [List.length_map]
            refine Nat.lt_of_le_of_lt (List.length_filterMap_le _ _) ?_
            rw [List.length_take]
            exact Nat.lt_of_le_of_lt (Nat.min_le_right _ _) (by decide)
          · rw [upd_upd, st, List.map_append]
            rfl
      · rintro H4 rfl
        refine ⟨D, rfl, s2.trans (same_new hD), ?_⟩
        rw [upd_same, hlen]
        rfl
    obtain ⟨lw, rfl, s3, hlw⟩ := m
    let InvZ : L2.St → Hp → Prop := fun σ H' => ∃ v4 v5, σ = [some it, some (.ref l), some (.str d.shown), v3, v4, v5, v6, v7, some (.ref lw), none] ∧ L2.Same H1 H'
    refine ⟨InvZ, ?_, fun σ H4 m => ?_⟩
    · refine ⟨_, rfl, it, rfl, fun l2 ys H4 s4 h4 m4 => ⟨_, rfl, l2, lw, ys, wds.map V.str, rfl, SqL.of h4, SqL.of (s4 _ _ hlw), ?_⟩⟩
      refine for_it (walk_zip rfl) (fun _ σ H' => InvZ σ H' ∧ L2.Same H4 H') ⟨⟨_, _, rfl, s3.trans s4⟩, L2.Same.refl _⟩ (fun i σ H' _ h => ⟨SqL.of (h.2 _ _ h4), SqL.of (h.2 _ _ (s4 _ _ hlw))⟩) ?_ (fun σ H' h => h.1)
      rintro i x σ H5 H6 hi ⟨⟨u4, u5, rfl, s5⟩, s6⟩ ⟨tt, y, z, rfl, hn, rfl, hy, hz⟩
      obtain ⟨⟨pi, po⟩, e, hp, rfl, he⟩ := m4.get hy
      have hi22 : i < 22 := by
        have q : (wds.map V.str).length = 22 := by rw [List.length_map, wds_len]
        omega
      have w1 := wds_at i hi22
      rw [hp] at w1
      obtain ⟨f, hf, rfl⟩ : ∃ f, wds[i]? = some f ∧ z = V.str f := by
        have hz : (wds.map V.str)[i]? = some z := hz
        rw [List.getElem?_map] at hz
        cases q : wds[i]? with
        | none =>
          rw [q] at hz
          cases hz
        | some f =>
          rw [q] at hz
          exact ⟨f, rfl, (Option.some.inj hz).symm⟩
      rw [hf] at w1
      obtain rfl : po = some f := Option.some.inj w1
      have hmem : (pi, some f) ∈ specs := (List.mem_filter.mp (List.mem_of_getElem? hp)).1
      have sN := same_new (o := .tup [.ref e, .str f]) hn
      have s7 := s5.trans sN
      refine ⟨tt, _, rfl, SqT.of upd_same, rfl, _, _, rfl, _, _, rfl, rfl, ?_⟩
      exact ⟨_, rfl, _, rfl, e, pi, f, it, rfl, hmem, he.same (s6.trans sN), it, d, rfl, dx_mono (s1.trans s7) hd, hgd.1, hgd.2.1, hgd.2.2.1, hgd.2.2.2, _, rfl, rfl, false, by simp, no ⟨⟨_, _, rfl, s7⟩, s6.trans sN⟩⟩
    obtain ⟨u4, u5, rfl, s5⟩ := m
    refine ⟨_, rfl, it, d, rfl, dx_mono (s1.trans s5) hd, hgd.1, hgd.2.1, hgd.2.2.1, hgd.2.2.2, _, rfl, rfl, ?_⟩
    rw [decide_eq_true rfl]
    exact kk _ (s1.trans s5)
end
end K68
namespace K68
open PySem PySem.Spec PyProof.Rows L2 Gd Ex Dt
def spLaw (K : PySem.W.Frag) : Sp := fun vs H Q _ => ∃ (a : Addr) (ns : List Int), vs = [.ref a] ∧ SqL K H a (ns.map V.int) ∧ ns.length ≤ 63 ∧ ∀ H', Q (.bl true) H'
def fixD : List PyData := [.none, .str "", .tuple [], .list [], .int 0, .bool true, .bool false]
theorem good_fix : ∀ d ∈ fixD, Good d := by
  unfold fixD
  refine forall_cons ?_ (forall_cons ?_ (forall_cons ?_ (forall_cons ?_ (forall_cons ?_ (forall_cons ?_ (forall_cons ?_ (fun x h => nomatch h)))))))
  all_goals
    refine good_of (t := _) ?_ ?_ (by simp only [PyData.shown_tuple, PyData.shown_list, PyData.shown_dict, PyData.shownAll_cons, PyData.shownAll_nil, PyData.shownKv_cons, PyData.shownKv_nil, PyData.shown_int, PyData.shown_str, PyData.shown_bool, PyData.shown_none]; rfl) (by decide +kernel) (by simp [PyData.hasDict, PyData.hasDictAll, noL, noLs, noLk])
    · simp only [PyData.showable, PyData.showableAll, PyData.showableKv]
      all_goals decide +kernel
    · simp only [PyData.depth, PyData.depthAll, PyData.depthKv]
      all_goals decide
theorem eq_bools {K : PySem.W.Frag} {a b : Addr} {bs : List Bool} {H : Hp} {Q : VK} (ha : H a = some (.lst (bs.map V.bl))) (hb : H b = some (.lst (bs.map V.bl))) (q : Q (.bl true) H) : rEqD K (.ref a) (.ref b) H Q := by
  refine ⟨dl bs, dl bs, .lst (SqL.of ha) (dp_bools bs), .lst (SqL.of hb) (dp_bools bs), shaped_dl bs, shaped_dl bs, ?_⟩
  rw [SeqAt.eqv_refl _ (lay_dl bs)]
  exact q
theorem Deck.there {H : Hp} {p q : Addr} {k : Int} (d : Deck H p q k) : H p ≠ none ∧ H q ≠ none := by
  obtain ⟨cs, t, j, ⟨h1, h2, _⟩, _⟩ := d
  refine ⟨fun h => ?_, fun h => ?_⟩
  · rw [h1] at h
    cases h
  · rw [h2] at h
    cases h
theorem neq {H : Hp} {a b : Addr} (h1 : H a ≠ none) (h2 : H b = none) : b ≠ a := fun e => h1 (e ▸ h2)
section
variable {P : Program} {w : World} {K : PySem.W.Frag} {mg : Str → Option Value} {base : Heap} {ca : Nat → Addr} {f : Addr} {fd : FuncData}
abbrev nLaw : List Str := ["script", "deck", "some", "base", "k", "it"]
theorem scLaw : FnScope nLaw ["script"] (defScope sLaw) := ⟨rfl, rfl, rfl, by decide +kernel, rfl, by decide +kernel, by decide +kernel⟩
theorem ok_law (F : Fun K "law" "law" sLaw f fd) {fD fO fR fK : Addr} {dD dO dR dK : FuncData} (CD : Cal P w K mg base 1 "_law_deck" ["script"] (spDeck K) fD dD) (CO : Cal P w K mg base 3 "_law_odd" ["deck"] (spOdd K) fO dO)
    (CW : Cal P w K mg base 4 "_law_right" ["it"] (spRight K) fR dR) (CK : Cal P w K mg base 1 "_law_kinds" ["e"] (spKinds ca) fK dK) (T : Txt P w K mg base ca) (R : Tr mg) : FnG P w K mg base 5 f fd ["script"] (spLaw K) := by
  refine .ofBody F scLaw (fun vs H Q h => ?_) (fun cdv A outer s H vs Q hg hr h => ?_)
  · obtain ⟨a, ns, rfl, _⟩ := h
    rfl
  · obtain ⟨a, ns, rfl, hS, hl, kk⟩ := h
    have nd := scLaw.nd
    have h1 := hr.mono (show 1 ≤ 4 by decide)
    have h3 := hr.mono (show 3 ≤ 4 by decide)
    refine ⟨_, C8.pss_cut (ps_set (i := 1) nd rfl (.inr rfl) (pe_callG CD.ok h1 hg rfl CD.g CD.kp CD.b (pa_cons (pv 0) pa_nil)))
      (C8.pss_cut (ps_set (i := 2) nd rfl (.inl rfl) (pe_op op_cat (ls_lst (ds := fixD) (dxs_cons dx_non (dxs_cons dx_str (dxs_cons (dx_tup dxs_nil) (dxs_cons (dx_lst dxs_nil) (dxs_cons dx_int (dxs_cons dx_bl (dxs_cons dx_bl dxs_nil))))))))
        (pe_lc (own := [("k", 4)]) (g := gName 4) (tt := tYes) rfl nd (pi_range1 (by rfl) R.range (pa_cons pe_int pa_nil)) (blkOk_by (N := nLaw) (sc := defScope sLaw) (by decide +kernel)) (fun _ _ _ _ _ => pg_name (i := 4) nd rfl (Or.inl rfl)) (fun _ _ _ _ _ => pts_nil) (fun _ _ _ _ _ => pe_callG CO.ok h3 hg rfl CO.g CO.kp CO.b (pa_cons (pv 1) pa_nil)))))
      (C8.pss_cut (ps_if (pt_cmpR (op_neD hr.units) (pe_lc (own := [("it", 5)]) (g := gName 5) rfl nd (pi_list (pv 2)) (blkOk_by (N := nLaw) (sc := defScope sLaw) (by decide +kernel)) (fun _ _ _ _ _ => pg_name (i := 5) nd rfl (Or.inl rfl)) (fun _ _ _ _ _ => pts_one (pt_not (pt_val (pe_callG CW.ok hr hg rfl CW.g CW.kp CW.b (pa_cons (pv 5) pa_nil))))) (fun _ _ _ _ _ => pv 5)) (pe_lst pa_nil) (nomark _)) (pss_one (ps_ret pe_bl)) pss_nil)
      (C8.pss_cut (ps_set (i := 3) nd rfl (.inl rfl) (new_bare (ca := ca) (i := 1) T.e1 T.n1 rfl T.g1))
      (pss_one (ps_ret (pe_and (pe_cmpR (op_eqD hr.units) (pe_lst (pa_cons (pe_callB call_is (by rfl) T.isi (by decide +kernel) (pa_cons (pv 3) (pa_cons (pe_bltn rfl T.val (by decide +kernel) (v := .ty "ValueError") rfl) pa_nil))) (pa_cons (pe_callB call_is (by rfl) T.isi (by decide +kernel) (pa_cons (pv 3) (pa_cons (pe_bltn rfl T.key (by decide +kernel) (v := .ty "KeyError") rfl) pa_nil))) pa_nil))) (pe_lst (pa_cons pe_bl (pa_cons pe_bl pa_nil))) (nomark _))
        (pe_one (pe_cmpR op_notIn_seq pe_bl (pe_callG CK.ok h1 hg rfl CK.g CK.kp CK.b (pa_cons (pv 3) pa_nil)) (by rfl)))))))))
      , ?_⟩
    refine ⟨fun σ H1 => ∃ p q, σ = [some (.ref a), some (.ref p), none, none, none, none] ∧ Deck H1 p q 0, ?_, ?_⟩
    · exact ⟨_, rfl, a, ns, rfl, hS, hl, fun p q H' _ _ _ hd => ⟨p, q, rfl, hd⟩⟩
    rintro σ H1 ⟨p, q, rfl, hd1⟩
    refine ⟨fun σ H' => ∃ ls xs, σ = [some (.ref a), some (.ref p), some (.ref ls), none, none, none] ∧ H' ls = some (.lst xs) ∧ ∀ v ∈ xs, Odd K H' v, ?_, ?_⟩
    · intro l xs H2 s2 hl2 hl0 hx
      refine ⟨_, rfl, by decide, by decide, fun D hD => ?_⟩
      have hd2 := hd1.same s2
      obtain ⟨np, nq⟩ := hd2.there
      have nDp : D ≠ p := neq np hD
      have nDq : D ≠ q := neq nq hD
      have tG : ∀ b, H2 b ≠ none → upd H2 D (.lst []) b ≠ none := fun b hb e => hb (upd_none e).2
      refine lc_it walk_range (fun n H' => ∃ vs, H' D = some (.lst vs) ∧ vs.length = n ∧ (∀ v ∈ vs, Odd K (New (upd H2 D (.lst [])) H') v) ∧ Deck H' p q n ∧ ∀ b o, b ≠ p → b ≠ q → b ≠ D → upd H2 D (.lst []) b = some o → H' b = some o)
        ⟨[], upd_same, rfl, fun v hv => (nomatch hv), hd2.same (same_new hD), fun b o _ _ _ h => h⟩ (fun _ _ _ _ => trivial) ?_ ?_
      · rintro n x H3 H4 hn ⟨vs, hv1, hv2, hv3, hv4, hv5⟩ ⟨rfl, rfl⟩
        refine ⟨rfl, ?_⟩
        simp only [tYes, if_true]
        have hn6 : n < 6 := hn
        obtain ⟨mp, mq⟩ := hv4.there
        have grow : ∀ b, H4 b = none → upd H2 D (.lst []) b = none := fun b hb => by
          by_cases e1 : b = p
          · exact absurd (e1 ▸ hb) mp
          by_cases e2 : b = q
          · exact absurd (e2 ▸ hb) mq
          by_cases e3 : b = D
          · rw [e3, hv1] at hb
            cases hb
          cases e4 : upd H2 D (.lst []) b with
          | none => rfl
          | some o =>
            rw [hv5 b o e1 e2 e3 e4] at hb
            cases hb
        refine ⟨_, rfl, p, q, n, rfl, hv4, by omega, fun v H5 ho off hd5 => ⟨vs, off _ _ nDp nDq hv1, by rw [hv2]; exact Nat.lt_of_lt_of_le hn6 (by decide), ?_⟩⟩
        have k5 : ∀ (o : HO) b u, b ≠ D → H5 b = some u → upd H5 D o b = some u := fun o b u e h => by rw [upd_ne e]; exact h
        refine ⟨vs ++ [v], upd_same, by rw [List.length_append, hv2]; rfl, fun u hu => ?_, ?_, fun b o n1 n2 n3 h => k5 _ b o n3 (off b o n1 n2 (hv5 b o n1 n2 n3 h))⟩
        · rcases List.mem_append.mp hu with hu | hu
          · refine (hv3 u hu).same fun b o h => ?_
            obtain ⟨h1, h2⟩ := New.mem h
            have n1 := neq (tG p np) h1
            have n2 := neq (tG q nq) h1
            have n3 : b ≠ D := fun e => by rw [e, upd_same] at h1; cases h1
            rw [New.at h1]
            exact k5 _ b o n3 (off b o n1 n2 h2)
          · obtain rfl := List.mem_singleton.mp hu
            refine ho.same fun b o h => ?_
            obtain ⟨h1, h2⟩ := New.mem h
            have n3 : b ≠ D := fun e => by rw [e, hv1] at h1; cases h1
            rw [New.at (grow b h1)]
            exact k5 _ b o n3 h2
        · obtain ⟨cs, t, j, ⟨g1, g2, g3⟩, gj⟩ := hd5
          refine ⟨cs, t, j, ⟨k5 _ _ _ nDp.symm g1, k5 _ _ _ nDq.symm g2, g3⟩, ?_⟩
          show j ≤ ((n + 1 : Nat) : Int)
          omega
      · rintro H3 ⟨vs, hv1, hv2, hv3, hv4, hv5⟩
        obtain ⟨op, oq⟩ := hd1.there
        have keep : ∀ b o, H1 b = none → H2 b = some o → H3 b = some o := fun b o h1 h2 => hv5 b o (neq op h1) (neq oq h1) (fun e => by rw [e, hD] at h2; cases h2) (by rw [upd_ne (fun e => by rw [e, hD] at h2; cases h2)]; exact h2)
        refine ⟨l, D, xs, vs, rfl, rfl, keep _ _ hl0 hl2, hv1, ?_, fun m hm => ?_⟩
        · rw [dxs_len hx, hv2]
          decide
        · refine ⟨m, xs ++ vs, rfl, upd_same, fun v hv => ?_⟩
          rcases List.mem_append.mp hv with hv | hv
          · obtain ⟨d, hd, hdx⟩ := dxs_get hx v hv
            refine Odd.same (same_new hm) ⟨d, dx_same (fun b o h => ?_) _ _ hdx, good_fix d hd⟩
            obtain ⟨h1, h2⟩ := New.mem h
            exact keep b o h1 h2
          · exact ((hv3 v hv).same (New.sub _ _)).same (same_new hm)
    rintro σ H2 ⟨ls, xs, rfl, hls, hodd⟩
    refine ⟨fun σ H' => ∃ ls, σ = [some (.ref a), some (.ref p), some (.ref ls), none, none, none], ?_, ?_⟩
    · refine ⟨_, rfl, ls, rfl, ⟨xs, SqL.of hls⟩, fun D hD => ?_⟩
      refine lc_it (walk_list (xs := xs)) (fun n H' => H' D = some (.lst []) ∧ L2.Same H2 H') ⟨upd_same, same_new hD⟩ (fun n H' _ h => SqL.of (h.2 _ _ hls)) ?_ ?_
      · rintro n x H3 H4 hn ⟨hv1, hs⟩ ⟨rfl, hx⟩
        refine ⟨rfl, _, rfl, x, rfl, (hodd x (List.mem_of_getElem? hx)).same hs, fun H5 s5 => ⟨true, rfl, ?_⟩⟩
        show (if false = true then _ else _)
        refine no ?_
        exact ⟨s5 _ _ hv1, hs.trans s5⟩
      · rintro H3 ⟨hv1, hs⟩
        refine ⟨by show 0 ≤ sizeLine; decide, fun l3 hl3 => ne_bools (bs := []) ((same_new hl3) _ _ hv1) upd_same ⟨false, rfl, no ⟨ls, rfl⟩⟩⟩
    rintro σ H3 ⟨ls, rfl⟩
    refine ⟨fun σ H' => ∃ e, σ = [some (.ref a), some (.ref p), some (.ref ls), some (.ref e), none, none] ∧ Exc H' e (ca 1) none, ?_, ?_⟩
    · exact ⟨_, rfl, fun e H' s he => ⟨e, rfl, he⟩⟩
    rintro σ H4 ⟨e, rfl, he⟩
    refine ⟨_, rfl, e, ca 1, none, _, _, _, rfl, he, T.is 1 (by decide), fun u hu => hu, T.kitV 1 (by decide), _, rfl, e, ca 1, none, _, _, _, rfl, he, T.is 1 (by decide), fun u hu => hu, T.kitK 1 (by decide), by show 2 ≤ sizeLine; decide, fun l1 hl1 => ⟨by show 2 ≤ sizeLine; decide, fun l2 hl2 => ?_⟩⟩
    refine eq_bools (bs := [true, false]) ((same_new hl2) _ _ upd_same) upd_same ⟨true, rfl, yes ?_⟩
    refine ⟨_, rfl, e, 1, none, rfl, (he.same (same_new hl1)).same (same_new hl2), by decide, fun lk H' s hk => ⟨lk, _, rfl, .inl (SqL.of hk), rfl, by decide, ?_⟩⟩
    exact kk _
end
end K68
namespace K68
open PySem PySem.Spec PyProof.Rows L2 Gd Ex Dt
def adr : List Addr := [0, 24, 37, 49, 68, 87, 106, 125, 144, 163, 182, 201, 220, 239, 251, 270, 289, 308, 327, 346, 365, 384, 403, 415, 434, 446, 465, 484, 504]
def ca (i : Nat) : Addr := adr.getD i 0
/-- what the written part holds -/
structure Fct (K : PySem.W.Frag) : Prop where
  z1 : PySem.W.nsIn K mainGlobals "RoundTiesError" = some (some (.ref 24))
  n1 : PySem.W.findIn K (.ref 24) "__init__" = some (some (.builtin "ValueError.__init__"))
  z2 : PySem.W.nsIn K mainGlobals "InvalidText" = some (some (.ref 37))
  n2 : PySem.W.findIn K (.ref 37) "__init__" = some (some (.builtin "ValueError.__init__"))
  z3 : PySem.W.nsIn K mainGlobals "InvalidCommand" = some (some (.ref 49))
  n3 : PySem.W.findIn K (.ref 49) "__init__" = some (some (.builtin "ValueError.__init__"))
  z4 : PySem.W.nsIn K mainGlobals "NoPath" = some (some (.ref 68))
  i4 : PySem.W.findIn K (.ref 68) "__init__" = some (some (.ref 65))
  f4 : PySem.W.isFn K (.ref 65) = true
  F4 : ∃ fd, Fun K "__init__" "NoPath.__init__" (inClass (top 4) 0) 65 fd
  t4 : PySem.W.takerIn K 68 "path" = some none
  z5 : PySem.W.nsIn K mainGlobals "UnknownName" = some (some (.ref 87))
  i5 : PySem.W.findIn K (.ref 87) "__init__" = some (some (.ref 84))
  f5 : PySem.W.isFn K (.ref 84) = true
  F5 : ∃ fd, Fun K "__init__" "UnknownName.__init__" (inClass (top 5) 0) 84 fd
  t5 : PySem.W.takerIn K 87 "path" = some none
  z6 : PySem.W.nsIn K mainGlobals "UnknownTag" = some (some (.ref 106))
  i6 : PySem.W.findIn K (.ref 106) "__init__" = some (some (.ref 103))
  f6 : PySem.W.isFn K (.ref 103) = true
  F6 : ∃ fd, Fun K "__init__" "UnknownTag.__init__" (inClass (top 6) 0) 103 fd
  t6 : PySem.W.takerIn K 106 "path" = some none
  z7 : PySem.W.nsIn K mainGlobals "WrongCount" = some (some (.ref 125))
  i7 : PySem.W.findIn K (.ref 125) "__init__" = some (some (.ref 122))
  f7 : PySem.W.isFn K (.ref 122) = true
  F7 : ∃ fd, Fun K "__init__" "WrongCount.__init__" (inClass (top 7) 0) 122 fd
  t7 : PySem.W.takerIn K 125 "path" = some none
  z8 : PySem.W.nsIn K mainGlobals "WrongSort" = some (some (.ref 144))
  i8 : PySem.W.findIn K (.ref 144) "__init__" = some (some (.ref 141))
  f8 : PySem.W.isFn K (.ref 141) = true
  F8 : ∃ fd, Fun K "__init__" "WrongSort.__init__" (inClass (top 8) 0) 141 fd
  t8 : PySem.W.takerIn K 144 "path" = some none
  z9 : PySem.W.nsIn K mainGlobals "WrongPlace" = some (some (.ref 163))
  i9 : PySem.W.findIn K (.ref 163) "__init__" = some (some (.ref 160))
  f9 : PySem.W.isFn K (.ref 160) = true
  F9 : ∃ fd, Fun K "__init__" "WrongPlace.__init__" (inClass (top 9) 0) 160 fd
  t9 : PySem.W.takerIn K 163 "path" = some none
  z10 : PySem.W.nsIn K mainGlobals "WrongArguments" = some (some (.ref 182))
  i10 : PySem.W.findIn K (.ref 182) "__init__" = some (some (.ref 179))
  f10 : PySem.W.isFn K (.ref 179) = true
  F10 : ∃ fd, Fun K "__init__" "WrongArguments.__init__" (inClass (top 10) 0) 179 fd
  t10 : PySem.W.takerIn K 182 "count" = some none
  z11 : PySem.W.nsIn K mainGlobals "NoCertificate" = some (some (.ref 201))
  i11 : PySem.W.findIn K (.ref 201) "__init__" = some (some (.ref 198))
  f11 : PySem.W.isFn K (.ref 198) = true
  F11 : ∃ fd, Fun K "__init__" "NoCertificate.__init__" (inClass (top 11) 0) 198 fd
  t11 : PySem.W.takerIn K 201 "name" = some none
  z12 : PySem.W.nsIn K mainGlobals "NoRuns" = some (some (.ref 220))
  i12 : PySem.W.findIn K (.ref 220) "__init__" = some (some (.ref 217))
  f12 : PySem.W.isFn K (.ref 217) = true
  F12 : ∃ fd, Fun K "__init__" "NoRuns.__init__" (inClass (top 12) 0) 217 fd
  t12 : PySem.W.takerIn K 220 "name" = some none
  z13 : PySem.W.nsIn K mainGlobals "NotPending" = some (some (.ref 239))
  i13 : PySem.W.findIn K (.ref 239) "__init__" = some (some (.ref 236))
  f13 : PySem.W.isFn K (.ref 236) = true
  F13 : ∃ fd, Fun K "__init__" "NotPending.__init__" (inClass (top 13) 0) 236 fd
  t13 : PySem.W.takerIn K 239 "call" = some none
  z14 : PySem.W.nsIn K mainGlobals "NotFinished" = some (some (.ref 251))
  n14 : PySem.W.findIn K (.ref 251) "__init__" = some (some (.builtin "ValueError.__init__"))
  z15 : PySem.W.nsIn K mainGlobals "NotPlain" = some (some (.ref 270))
  i15 : PySem.W.findIn K (.ref 270) "__init__" = some (some (.ref 267))
  f15 : PySem.W.isFn K (.ref 267) = true
  F15 : ∃ fd, Fun K "__init__" "NotPlain.__init__" (inClass (top 15) 0) 267 fd
  t15 : PySem.W.takerIn K 270 "name" = some none
  z16 : PySem.W.nsIn K mainGlobals "NotSimple" = some (some (.ref 289))
  i16 : PySem.W.findIn K (.ref 289) "__init__" = some (some (.ref 286))
  f16 : PySem.W.isFn K (.ref 286) = true
  F16 : ∃ fd, Fun K "__init__" "NotSimple.__init__" (inClass (top 16) 0) 286 fd
  t16 : PySem.W.takerIn K 289 "name" = some none
  z17 : PySem.W.nsIn K mainGlobals "NoMaker" = some (some (.ref 308))
  i17 : PySem.W.findIn K (.ref 308) "__init__" = some (some (.ref 305))
  f17 : PySem.W.isFn K (.ref 305) = true
  F17 : ∃ fd, Fun K "__init__" "NoMaker.__init__" (inClass (top 17) 0) 305 fd
  t17 : PySem.W.takerIn K 308 "name" = some none
  z18 : PySem.W.nsIn K mainGlobals "NameTaken" = some (some (.ref 327))
  i18 : PySem.W.findIn K (.ref 327) "__init__" = some (some (.ref 324))
  f18 : PySem.W.isFn K (.ref 324) = true
  F18 : ∃ fd, Fun K "__init__" "NameTaken.__init__" (inClass (top 18) 0) 324 fd
  t18 : PySem.W.takerIn K 327 "name" = some none
  z19 : PySem.W.nsIn K mainGlobals "NotSteady" = some (some (.ref 346))
  i19 : PySem.W.findIn K (.ref 346) "__init__" = some (some (.ref 343))
  f19 : PySem.W.isFn K (.ref 343) = true
  F19 : ∃ fd, Fun K "__init__" "NotSteady.__init__" (inClass (top 19) 0) 343 fd
  t19 : PySem.W.takerIn K 346 "name" = some none
  z20 : PySem.W.nsIn K mainGlobals "NoTest" = some (some (.ref 365))
  i20 : PySem.W.findIn K (.ref 365) "__init__" = some (some (.ref 362))
  f20 : PySem.W.isFn K (.ref 362) = true
  F20 : ∃ fd, Fun K "__init__" "NoTest.__init__" (inClass (top 20) 0) 362 fd
  t20 : PySem.W.takerIn K 365 "name" = some none
  z21 : PySem.W.nsIn K mainGlobals "NoTable" = some (some (.ref 384))
  i21 : PySem.W.findIn K (.ref 384) "__init__" = some (some (.ref 381))
  f21 : PySem.W.isFn K (.ref 381) = true
  F21 : ∃ fd, Fun K "__init__" "NoTable.__init__" (inClass (top 21) 0) 381 fd
  t21 : PySem.W.takerIn K 384 "name" = some none
  z22 : PySem.W.nsIn K mainGlobals "NotSingle" = some (some (.ref 403))
  i22 : PySem.W.findIn K (.ref 403) "__init__" = some (some (.ref 400))
  f22 : PySem.W.isFn K (.ref 400) = true
  F22 : ∃ fd, Fun K "__init__" "NotSingle.__init__" (inClass (top 22) 0) 400 fd
  t22 : PySem.W.takerIn K 403 "name" = some none
  z23 : PySem.W.nsIn K mainGlobals "NotFinite" = some (some (.ref 415))
  n23 : PySem.W.findIn K (.ref 415) "__init__" = some (some (.builtin "ValueError.__init__"))
  z24 : PySem.W.nsIn K mainGlobals "UnknownHole" = some (some (.ref 434))
  i24 : PySem.W.findIn K (.ref 434) "__init__" = some (some (.ref 431))
  f24 : PySem.W.isFn K (.ref 431) = true
  F24 : ∃ fd, Fun K "__init__" "UnknownHole.__init__" (inClass (top 24) 0) 431 fd
  t24 : PySem.W.takerIn K 434 "name" = some none
  z25 : PySem.W.nsIn K mainGlobals "NoTurn" = some (some (.ref 446))
  n25 : PySem.W.findIn K (.ref 446) "__init__" = some (some (.builtin "ValueError.__init__"))
  z26 : PySem.W.nsIn K mainGlobals "NoSide" = some (some (.ref 465))
  i26 : PySem.W.findIn K (.ref 465) "__init__" = some (some (.ref 462))
  f26 : PySem.W.isFn K (.ref 462) = true
  F26 : ∃ fd, Fun K "__init__" "NoSide.__init__" (inClass (top 26) 0) 462 fd
  t26 : PySem.W.takerIn K 465 "side" = some none
  z27 : PySem.W.nsIn K mainGlobals "UnknownFunction" = some (some (.ref 484))
  i27 : PySem.W.findIn K (.ref 484) "__init__" = some (some (.ref 481))
  f27 : PySem.W.isFn K (.ref 481) = true
  F27 : ∃ fd, Fun K "__init__" "UnknownFunction.__init__" (inClass (top 27) 0) 481 fd
  t27 : PySem.W.takerIn K 484 "name" = some none
  z28 : PySem.W.nsIn K mainGlobals "UnknownItem" = some (some (.ref 504))
  i28 : PySem.W.findIn K (.ref 504) "__init__" = some (some (.ref 501))
  f28 : PySem.W.isFn K (.ref 501) = true
  F28 : ∃ fd, Fun K "__init__" "UnknownItem.__init__" (inClass (top 28) 0) 501 fd
  t28 : PySem.W.takerIn K 504 "name" = some none
  z30 : PySem.W.nsIn K mainGlobals "_law_deck" = some (some (.ref 514))
  F30 : ∃ fd, Fun K "_law_deck" "_law_deck" (top 30) 514 fd
  z31 : PySem.W.nsIn K mainGlobals "_law_draw" = some (some (.ref 521))
  F31 : ∃ fd, Fun K "_law_draw" "_law_draw" (top 31) 521 fd
  z32 : PySem.W.nsIn K mainGlobals "_law_pick" = some (some (.ref 528))
  F32 : ∃ fd, Fun K "_law_pick" "_law_pick" (top 32) 528 fd
  z33 : PySem.W.nsIn K mainGlobals "_law_odd" = some (some (.ref 535))
  F33 : ∃ fd, Fun K "_law_odd" "_law_odd" (top 33) 535 fd
  z34 : PySem.W.nsIn K mainGlobals "_law_made" = some (some (.ref 542))
  F34 : ∃ fd, Fun K "_law_made" "_law_made" (top 34) 542 fd
  z35 : PySem.W.nsIn K mainGlobals "_law_named" = some (some (.ref 549))
  F35 : ∃ fd, Fun K "_law_named" "_law_named" (top 35) 549 fd
  z36 : PySem.W.nsIn K mainGlobals "_law_carried" = some (some (.ref 556))
  F36 : ∃ fd, Fun K "_law_carried" "_law_carried" (top 36) 556 fd
  z37 : PySem.W.nsIn K mainGlobals "_law_kinds" = some (some (.ref 563))
  F37 : ∃ fd, Fun K "_law_kinds" "_law_kinds" (top 37) 563 fd
  z38 : PySem.W.nsIn K mainGlobals "_law_right" = some (some (.ref 568))
  F38 : ∃ fd, Fun K "_law_right" "_law_right" (top 38) 568 fd
  z39 : PySem.W.nsIn K mainGlobals "law" = some (some (.ref 573))
  F39 : ∃ fd, Fun K "law" "law" (top 39) 573 fd
  xs : (allC.all fun i => exB K (ca i) (if i < 27 then veT else keT) (if i < 27 then "ValueError.__new__" else "LookupError.__new__")) = true
  hn : PySem.W.specialIn K (.builtin "object.__class__") "__get__" = some (some (.builtin "getset_descriptor.__get__"))
  ht : PySem.W.takesIn K (.builtin "object.__class__") = some true
  no : (specs.all fun p => match p.2 with | none => true | some f => decide (PySem.W.findIn K (.ref (ca p.1)) f = some none)) = true
  kit : (allC.all fun i => subC.all fun j => decide (PySem.W.kitOne K (.ref (ca i)) (.ref (ca j)) = some (decide (i = j)))) = true
  kitR : (allC.all fun i => decide (PySem.W.kitOne K (.ref (ca i)) (.ref (ca 1)) = some (decide (i < 27)))) = true
  kitV : (allC.all fun i => decide (PySem.W.kitOne K (.ref (ca i)) (.type "ValueError") = some (decide (i < 27)))) = true
  kitK : (allC.all fun i => decide (PySem.W.kitOne K (.ref (ca i)) (.type "KeyError") = some (decide (27 ≤ i)))) = true
  r1 : PySem.W.specialIn K (.ref (ca 1)) "__getattribute__" = some (some (.builtin "type.__getattribute__"))
  r2 : PySem.W.typeIn K (.ref (ca 1)) = some (.type "type")
  r3 : PySem.W.readsIn K (ca 1) (.type "type") = true
  r4 : PySem.W.findCls K (.ref (ca 1)) (.type "type") "__init__" = some (.val (.builtin "ValueError.__init__"))
  r5 : PySem.W.findCls K (.type "KeyError") (.type "type") "__init__" = some (.val (.builtin "KeyError.__init__"))
  b_isinstance : PySem.W.nsIn K mainGlobals "isinstance" = some none
  b_ValueError : PySem.W.nsIn K mainGlobals "ValueError" = some none
  b_KeyError : PySem.W.nsIn K mainGlobals "KeyError" = some none
  b_list : PySem.W.nsIn K mainGlobals "list" = some none
  b_len : PySem.W.nsIn K mainGlobals "len" = some none
  b_repr : PySem.W.nsIn K mainGlobals "repr" = some none
  b_enumerate : PySem.W.nsIn K mainGlobals "enumerate" = some none
  b_range : PySem.W.nsIn K mainGlobals "range" = some none
  b_zip : PySem.W.nsIn K mainGlobals "zip" = some none
theorem veTail : TailOk "ValueError" veT := ⟨by decide +kernel, by decide +kernel, by decide +kernel⟩
theorem leTail : TailOk "LookupError" keT := ⟨by decide +kernel, by decide +kernel, by decide +kernel⟩
theorem mkV {P : Program} {w : World} {K : PySem.W.Frag} {mg : Str → Option Value} {base : Heap} {C fI : Addr} {k : Nat} {x qual : Str} {st : Stmt} {fd : FuncData} {ps : List Str} {sp : Sp} (h1 : PySem.W.findIn K (.ref C) "__init__" = some (some (.ref fI))) (h2 : PySem.W.isFn K (.ref fI) = true) (h3 : Fun K x qual st fI fd) (h4 : FnOk P w K mg base CX0 k fI fd ps sp)
    (h5 : ∀ (kV doc pm : Value) (an : Option Addr) (cdv ct : Value) (us : List Value), us.length = ps.length → bindArgs (PySem.W.fnOf x qual (defArgs st) (defBody st) (defScope st) .none kV doc pm an cdv ct) ⟨us, []⟩ = pure (ps.zip us))
    (h6 : ∀ (kV doc pm : Value) (an : Option Addr) (cdv ct : Value) (a u : Value) (p : Str), ps = [("self" : Str), p] → bindArgs (PySem.W.fnOf x qual (defArgs st) (defBody st) (defScope st) .none kV doc pm an cdv ct) ⟨[a], [(p, u)]⟩ = pure (ps.zip [a, u]))
    (h7 : ExK K C veT "ValueError.__new__") : MkX P w K mg base C veT "ValueError.__new__" k ps sp := by
  obtain ⟨oc, od, kV, doc, pm, an, cdv, ct, osl, e, _, _⟩ := h3.ex
  subst e
  exact ⟨⟨"ValueError", "ValueError.__init__", _, fI, _, F.excBase_ValueError, veTail, h1, h2, h4, fun us hl => h5 kV doc pm an cdv ct us hl, fun a u p e => h6 kV doc pm an cdv ct a u p e⟩, h7⟩
theorem mkL {P : Program} {w : World} {K : PySem.W.Frag} {mg : Str → Option Value} {base : Heap} {C fI : Addr} {k : Nat} {x qual : Str} {st : Stmt} {fd : FuncData} {ps : List Str} {sp : Sp} (h1 : PySem.W.findIn K (.ref C) "__init__" = some (some (.ref fI))) (h2 : PySem.W.isFn K (.ref fI) = true) (h3 : Fun K x qual st fI fd) (h4 : FnOk P w K mg base CX0 k fI fd ps sp)
    (h5 : ∀ (kV doc pm : Value) (an : Option Addr) (cdv ct : Value) (us : List Value), us.length = ps.length → bindArgs (PySem.W.fnOf x qual (defArgs st) (defBody st) (defScope st) .none kV doc pm an cdv ct) ⟨us, []⟩ = pure (ps.zip us))
    (h6 : ∀ (kV doc pm : Value) (an : Option Addr) (cdv ct : Value) (a u : Value) (p : Str), ps = [("self" : Str), p] → bindArgs (PySem.W.fnOf x qual (defArgs st) (defBody st) (defScope st) .none kV doc pm an cdv ct) ⟨[a], [(p, u)]⟩ = pure (ps.zip [a, u]))
    (h7 : ExK K C keT "LookupError.__new__") : MkX P w K mg base C keT "LookupError.__new__" k ps sp := by
  obtain ⟨oc, od, kV, doc, pm, an, cdv, ct, osl, e, _, _⟩ := h3.ex
  subst e
  exact ⟨⟨"LookupError", "LookupError.__init__", _, fI, _, F.excBase_LookupError, leTail, h1, h2, h4, fun us hl => h5 kV doc pm an cdv ct us hl, fun a u p e => h6 kV doc pm an cdv ct a u p e⟩, h7⟩
theorem Fct.ex {K : PySem.W.Frag} (A : Fct K) {i : Nat} (h : i ∈ allC) : ExK K (ca i) (if i < 27 then veT else keT) (if i < 27 then "ValueError.__new__" else "LookupError.__new__") := exB_ok (List.all_eq_true.mp A.xs i h) A.hn A.ht
theorem Fct.is {K : PySem.W.Frag} (A : Fct K) {i : Nat} (h : i ∈ allC) : ExcC K (ca i) := (A.ex h).is
theorem Fct.rt {K : PySem.W.Frag} {h : Heap} {mg : Str → Option Value} (A : Fct K) (X : K.In h) (G : h.Ns mainGlobals mg) : RT K mg := ⟨⟨24, PySem.W.mg_of X G A.z1, A.r1, A.r2, A.r3, A.r4⟩, PySem.W.mg_none_of X G A.b_KeyError, A.r5⟩
theorem Fct.txt {P : Program} {w : World} {K : PySem.W.Frag} {h : Heap} {mg : Str → Option Value} (A : Fct K) (X : K.In h) (G : h.Ns mainGlobals mg) (base : Heap) : Txt P w K mg base ca := by
  have R := A.rt X G
  obtain ⟨d4, F4⟩ := A.F4
  obtain ⟨d5, F5⟩ := A.F5
  obtain ⟨d6, F6⟩ := A.F6
  obtain ⟨d7, F7⟩ := A.F7
  obtain ⟨d8, F8⟩ := A.F8
  obtain ⟨d9, F9⟩ := A.F9
  obtain ⟨d10, F10⟩ := A.F10
  obtain ⟨d11, F11⟩ := A.F11
  obtain ⟨d12, F12⟩ := A.F12
  obtain ⟨d13, F13⟩ := A.F13
  obtain ⟨d15, F15⟩ := A.F15
  obtain ⟨d16, F16⟩ := A.F16
  obtain ⟨d17, F17⟩ := A.F17
  obtain ⟨d18, F18⟩ := A.F18
  obtain ⟨d19, F19⟩ := A.F19
  obtain ⟨d20, F20⟩ := A.F20
  obtain ⟨d21, F21⟩ := A.F21
  obtain ⟨d22, F22⟩ := A.F22
  obtain ⟨d24, F24⟩ := A.F24
  obtain ⟨d26, F26⟩ := A.F26
  obtain ⟨d27, F27⟩ := A.F27
  obtain ⟨d28, F28⟩ := A.F28
  exact {
    g1 := PySem.W.mg_of X G A.z1
    e1 := A.ex (i := 1) (by decide)
    n1 := A.n1
    g2 := PySem.W.mg_of X G A.z2
    e2 := A.ex (i := 2) (by decide)
    n2 := A.n2
    g3 := PySem.W.mg_of X G A.z3
    e3 := A.ex (i := 3) (by decide)
    n3 := A.n3
    g4 := PySem.W.mg_of X G A.z4
    m4 := mkV A.i4 A.f4 F4 (ini_4 F4 R) (fun _ _ _ _ _ _ us hl => match us, hl with | [_, _], _ => rfl) (fun _ _ _ _ _ _ a u p e => by cases e; rfl) (A.ex (i := 4) (by decide))
    t4 := A.t4
    g5 := PySem.W.mg_of X G A.z5
    m5 := mkV A.i5 A.f5 F5 (ini_5 F5 R) (fun _ _ _ _ _ _ us hl => match us, hl with | [_, _], _ => rfl) (fun _ _ _ _ _ _ a u p e => by cases e; rfl) (A.ex (i := 5) (by decide))
    t5 := A.t5
    g6 := PySem.W.mg_of X G A.z6
    m6 := mkV A.i6 A.f6 F6 (ini_6 F6 R) (fun _ _ _ _ _ _ us hl => match us, hl with | [_, _], _ => rfl) (fun _ _ _ _ _ _ a u p e => by cases e; rfl) (A.ex (i := 6) (by decide))
    t6 := A.t6
    g7 := PySem.W.mg_of X G A.z7
    m7 := mkV A.i7 A.f7 F7 (ini_7 F7 R) (fun _ _ _ _ _ _ us hl => match us, hl with | [_, _], _ => rfl) (fun _ _ _ _ _ _ a u p e => by cases e; rfl) (A.ex (i := 7) (by decide))
    t7 := A.t7
    g8 := PySem.W.mg_of X G A.z8
    m8 := mkV A.i8 A.f8 F8 (ini_8 F8 R) (fun _ _ _ _ _ _ us hl => match us, hl with | [_, _], _ => rfl) (fun _ _ _ _ _ _ a u p e => by cases e; rfl) (A.ex (i := 8) (by decide))
    t8 := A.t8
    g9 := PySem.W.mg_of X G A.z9
    m9 := mkV A.i9 A.f9 F9 (ini_9 F9 R) (fun _ _ _ _ _ _ us hl => match us, hl with | [_, _], _ => rfl) (fun _ _ _ _ _ _ a u p e => by cases e; rfl) (A.ex (i := 9) (by decide))
    t9 := A.t9
    g10 := PySem.W.mg_of X G A.z10
    m10 := mkV A.i10 A.f10 F10 (ini_10 F10 R) (fun _ _ _ _ _ _ us hl => match us, hl with | [_, _], _ => rfl) (fun _ _ _ _ _ _ a u p e => by cases e; rfl) (A.ex (i := 10) (by decide))
    t10 := A.t10
    g11 := PySem.W.mg_of X G A.z11
    m11 := mkV A.i11 A.f11 F11 (ini_11 F11 R) (fun _ _ _ _ _ _ us hl => match us, hl with | [_, _], _ => rfl) (fun _ _ _ _ _ _ a u p e => by cases e; rfl) (A.ex (i := 11) (by decide))
    t11 := A.t11
    g12 := PySem.W.mg_of X G A.z12
    m12 := mkV A.i12 A.f12 F12 (ini_12 F12 R) (fun _ _ _ _ _ _ us hl => match us, hl with | [_, _], _ => rfl) (fun _ _ _ _ _ _ a u p e => by cases e; rfl) (A.ex (i := 12) (by decide))
    t12 := A.t12
    g13 := PySem.W.mg_of X G A.z13
    m13 := mkV A.i13 A.f13 F13 (ini_13 F13 R) (fun _ _ _ _ _ _ us hl => match us, hl with | [_, _], _ => rfl) (fun _ _ _ _ _ _ a u p e => by cases e; rfl) (A.ex (i := 13) (by decide))
    t13 := A.t13
    g14 := PySem.W.mg_of X G A.z14
    e14 := A.ex (i := 14) (by decide)
    n14 := A.n14
    g15 := PySem.W.mg_of X G A.z15
    m15 := mkV A.i15 A.f15 F15 (ini_15 F15 R) (fun _ _ _ _ _ _ us hl => match us, hl with | [_, _], _ => rfl) (fun _ _ _ _ _ _ a u p e => by cases e; rfl) (A.ex (i := 15) (by decide))
    t15 := A.t15
    g16 := PySem.W.mg_of X G A.z16
    m16 := mkV A.i16 A.f16 F16 (ini_16 F16 R) (fun _ _ _ _ _ _ us hl => match us, hl with | [_, _], _ => rfl) (fun _ _ _ _ _ _ a u p e => by cases e; rfl) (A.ex (i := 16) (by decide))
    t16 := A.t16
    g17 := PySem.W.mg_of X G A.z17
    m17 := mkV A.i17 A.f17 F17 (ini_17 F17 R) (fun _ _ _ _ _ _ us hl => match us, hl with | [_, _], _ => rfl) (fun _ _ _ _ _ _ a u p e => by cases e; rfl) (A.ex (i := 17) (by decide))
    t17 := A.t17
    g18 := PySem.W.mg_of X G A.z18
    m18 := mkV A.i18 A.f18 F18 (ini_18 F18 R) (fun _ _ _ _ _ _ us hl => match us, hl with | [_, _], _ => rfl) (fun _ _ _ _ _ _ a u p e => by cases e; rfl) (A.ex (i := 18) (by decide))
    t18 := A.t18
    g19 := PySem.W.mg_of X G A.z19
    m19 := mkV A.i19 A.f19 F19 (ini_19 F19 R) (fun _ _ _ _ _ _ us hl => match us, hl with | [_, _], _ => rfl) (fun _ _ _ _ _ _ a u p e => by cases e; rfl) (A.ex (i := 19) (by decide))
    t19 := A.t19
    g20 := PySem.W.mg_of X G A.z20
    m20 := mkV A.i20 A.f20 F20 (ini_20 F20 R) (fun _ _ _ _ _ _ us hl => match us, hl with | [_, _], _ => rfl) (fun _ _ _ _ _ _ a u p e => by cases e; rfl) (A.ex (i := 20) (by decide))
    t20 := A.t20
    g21 := PySem.W.mg_of X G A.z21
    m21 := mkV A.i21 A.f21 F21 (ini_21 F21 R) (fun _ _ _ _ _ _ us hl => match us, hl with | [_, _], _ => rfl) (fun _ _ _ _ _ _ a u p e => by cases e; rfl) (A.ex (i := 21) (by decide))
    t21 := A.t21
    g22 := PySem.W.mg_of X G A.z22
    m22 := mkV A.i22 A.f22 F22 (ini_22 F22 R) (fun _ _ _ _ _ _ us hl => match us, hl with | [_, _], _ => rfl) (fun _ _ _ _ _ _ a u p e => by cases e; rfl) (A.ex (i := 22) (by decide))
    t22 := A.t22
    g23 := PySem.W.mg_of X G A.z23
    e23 := A.ex (i := 23) (by decide)
    n23 := A.n23
    g24 := PySem.W.mg_of X G A.z24
    m24 := mkV A.i24 A.f24 F24 (ini_24 F24 R) (fun _ _ _ _ _ _ us hl => match us, hl with | [_, _], _ => rfl) (fun _ _ _ _ _ _ a u p e => by cases e; rfl) (A.ex (i := 24) (by decide))
    t24 := A.t24
    g25 := PySem.W.mg_of X G A.z25
    e25 := A.ex (i := 25) (by decide)
    n25 := A.n25
    g26 := PySem.W.mg_of X G A.z26
    m26 := mkV A.i26 A.f26 F26 (ini_26 F26 R) (fun _ _ _ _ _ _ us hl => match us, hl with | [_, _], _ => rfl) (fun _ _ _ _ _ _ a u p e => by cases e; rfl) (A.ex (i := 26) (by decide))
    t26 := A.t26
    g27 := PySem.W.mg_of X G A.z27
    m27 := mkL A.i27 A.f27 F27 (ini_27 F27 R) (fun _ _ _ _ _ _ us hl => match us, hl with | [_, _], _ => rfl) (fun _ _ _ _ _ _ a u p e => by cases e; rfl) (A.ex (i := 27) (by decide))
    t27 := A.t27
    g28 := PySem.W.mg_of X G A.z28
    m28 := mkL A.i28 A.f28 F28 (ini_28 F28 R) (fun _ _ _ _ _ _ us hl => match us, hl with | [_, _], _ => rfl) (fun _ _ _ _ _ _ a u p e => by cases e; rfl) (A.ex (i := 28) (by decide))
    t28 := A.t28
    is := fun i hi => A.is hi
    no := fun p hp f e => by
      have z := List.all_eq_true.mp A.no p hp
      rw [e] at z
      exact of_decide_eq_true z
    kit := fun i hi j hj => of_decide_eq_true (List.all_eq_true.mp (List.all_eq_true.mp A.kit i hi) j hj)
    kitR := fun i hi => of_decide_eq_true (List.all_eq_true.mp A.kitR i hi)
    kitV := fun i hi => of_decide_eq_true (List.all_eq_true.mp A.kitV i hi)
    kitK := fun i hi => of_decide_eq_true (List.all_eq_true.mp A.kitK i hi)
    isi := PySem.W.mg_none_of X G A.b_isinstance
    val := PySem.W.mg_none_of X G A.b_ValueError
    key := PySem.W.mg_none_of X G A.b_KeyError }
theorem all_of {P : Program} {w : World} {K : PySem.W.Frag} {h : Heap} {mg : Str → Option Value} {fa : Addr} (A : Fct K) (X : K.In h) (G : h.Ns mainGlobals mg) (hfa : mg "law" = some (.ref fa)) :
    ∃ fd : FuncData, (∀ (s : Shared) (u : Value), BindsTo s fd ⟨[u], []⟩ [("script", u)]) ∧ ∀ base : Heap, FnG P w K mg base 5 fa fd ["script"] (spLaw K) := by
  have T := fun base => A.txt (P := P) (w := w) X G base
  have N : Tn mg := ⟨PySem.W.mg_none_of X G A.b_list, PySem.W.mg_none_of X G A.b_len⟩
  have R : Tr mg := ⟨PySem.W.mg_none_of X G A.b_repr, PySem.W.mg_none_of X G A.b_enumerate, PySem.W.mg_none_of X G A.b_range, PySem.W.mg_none_of X G A.b_zip⟩
  obtain ⟨d30, F30⟩ := A.F30
  have CD : ∀ base, Cal P w K mg base 1 "_law_deck" ["script"] _ 514 d30 := fun base => ⟨ok_deck F30 N, PySem.W.mg_of X G A.z30, F30.kp, F30.binds fun _ _ _ _ _ _ us hl => match us, hl with | [_], _ => rfl⟩
  obtain ⟨d31, F31⟩ := A.F31
  have CW : ∀ base, Cal P w K mg base 1 "_law_draw" ["deck", "limit"] _ 521 d31 := fun base => ⟨ok_draw F31, PySem.W.mg_of X G A.z31, F31.kp, F31.binds fun _ _ _ _ _ _ us hl => match us, hl with | [_, _], _ => rfl⟩
  obtain ⟨d32, F32⟩ := A.F32
  have CP : ∀ base, Cal P w K mg base 2 "_law_pick" ["deck", "items"] _ 528 d32 := fun base => ⟨ok_pick F32 (CW base) N, PySem.W.mg_of X G A.z32, F32.kp, F32.binds fun _ _ _ _ _ _ us hl => match us, hl with | [_, _], _ => rfl⟩
  obtain ⟨d33, F33⟩ := A.F33
  have CO : ∀ base, Cal P w K mg base 3 "_law_odd" ["deck"] _ 535 d33 := fun base => ⟨ok_odd F33 (CP base), PySem.W.mg_of X G A.z33, F33.kp, F33.binds fun _ _ _ _ _ _ us hl => match us, hl with | [_], _ => rfl⟩
  obtain ⟨d34, F34⟩ := A.F34
  have CM : ∀ base, Cal P w K mg base 3 "_law_made" ["it"] _ 542 d34 := fun base => ⟨ok_made F34 (T base), PySem.W.mg_of X G A.z34, F34.kp, F34.binds fun _ _ _ _ _ _ us hl => match us, hl with | [_], _ => rfl⟩
  obtain ⟨d35, F35⟩ := A.F35
  have CN : ∀ base, Cal P w K mg base 3 "_law_named" ["it"] _ 549 d35 := fun base => ⟨ok_named F35 (T base), PySem.W.mg_of X G A.z35, F35.kp, F35.binds fun _ _ _ _ _ _ us hl => match us, hl with | [_], _ => rfl⟩
  obtain ⟨d36, F36⟩ := A.F36
  have CC : ∀ base, Cal P w K mg base 1 "_law_carried" ["e", "word"] _ 556 d36 := fun base => ⟨ok_carried F36 (T base), PySem.W.mg_of X G A.z36, F36.kp, F36.binds fun _ _ _ _ _ _ us hl => match us, hl with | [_, _], _ => rfl⟩
  obtain ⟨d37, F37⟩ := A.F37
  have CK : ∀ base, Cal P w K mg base 1 "_law_kinds" ["e"] _ 563 d37 := fun base => ⟨ok_kinds F37 (T base), PySem.W.mg_of X G A.z37, F37.kp, F37.binds fun _ _ _ _ _ _ us hl => match us, hl with | [_], _ => rfl⟩
  obtain ⟨d38, F38⟩ := A.F38
  have CR : ∀ base, Cal P w K mg base 4 "_law_right" ["it"] _ 568 d38 := fun base => ⟨ok_right F38 (CM base) (CN base) (CC base) (CK base) (T base) R N, PySem.W.mg_of X G A.z38, F38.kp, F38.binds fun _ _ _ _ _ _ us hl => match us, hl with | [_], _ => rfl⟩
  obtain ⟨d39, F39⟩ := A.F39
  cases hfa.symm.trans (PySem.W.mg_of X G A.z39)
  refine ⟨d39, fun s u => ?_, fun base => ok_law F39 (CD base) (CO base) (CR base) (CK base) (T base) R⟩
  obtain ⟨oc, od, kV, doc, pm, an, cdv, ct, osl, e, _, _⟩ := F39.ex
  subst e
  exact .of_eq rfl
end K68
open PySem PySem.W PyProof.Rows
theorem PySem.Challenge.cw_roundties_k68_whole_errors_and_eight_new_holds : PySem.Challenge.rw_roundties_k68_whole_errors_and_eight_new.Holds := by
  refine hd68 ?_
  k_fill
  refine Gd.walk_ofG (l := PySem.Challenge.rw_roundties_k68_whole_errors_and_eight_new) (k := 5) (sp := K68.spLaw) (x := "script") rfl (by decide +kernel) rfl ⟨rfl, by decide, by decide⟩ (fun w h Y => PySem.W.kIn_of Y) ?F ?S
  case S =>
    intro K H a ns hl hS
    exact ⟨a, ns, rfl, hS, hl, fun _ => rfl⟩
  case F =>
    intro w mg fa h X G hmg
    refine K68.all_of ?_ X G hmg
    exact {
      z1 := by k_is
      n1 := by k_is
      z2 := by k_is
      n2 := by k_is
      z3 := by k_is
      n3 := by k_is
      z4 := by k_is
      i4 := by k_is
      f4 := by k_is
      F4 := ⟨_, L2.fun_mk (by k_is) (by k_is) (by k_is)⟩
      t4 := by k_is
      z5 := by k_is
      i5 := by k_is
      f5 := by k_is
      F5 := ⟨_, L2.fun_mk (by k_is) (by k_is) (by k_is)⟩
      t5 := by k_is
      z6 := by k_is
      i6 := by k_is
      f6 := by k_is
      F6 := ⟨_, L2.fun_mk (by k_is) (by k_is) (by k_is)⟩
      t6 := by k_is
      z7 := by k_is
      i7 := by k_is
      f7 := by k_is
      F7 := ⟨_, L2.fun_mk (by k_is) (by k_is) (by k_is)⟩
      t7 := by k_is
      z8 := by k_is
      i8 := by k_is
      f8 := by k_is
      F8 := ⟨_, L2.fun_mk (by k_is) (by k_is) (by k_is)⟩
      t8 := by k_is
      z9 := by k_is
      i9 := by k_is
      f9 := by k_is
      F9 := ⟨_, L2.fun_mk (by k_is) (by k_is) (by k_is)⟩
      t9 := by k_is
      z10 := by k_is
      i10 := by k_is
      f10 := by k_is
      F10 := ⟨_, L2.fun_mk (by k_is) (by k_is) (by k_is)⟩
      t10 := by k_is
      z11 := by k_is
      i11 := by k_is
      f11 := by k_is
      F11 := ⟨_, L2.fun_mk (by k_is) (by k_is) (by k_is)⟩
      t11 := by k_is
      z12 := by k_is
      i12 := by k_is
      f12 := by k_is
      F12 := ⟨_, L2.fun_mk (by k_is) (by k_is) (by k_is)⟩
      t12 := by k_is
      z13 := by k_is
      i13 := by k_is
      f13 := by k_is
      F13 := ⟨_, L2.fun_mk (by k_is) (by k_is) (by k_is)⟩
      t13 := by k_is
      z14 := by k_is
      n14 := by k_is
      z15 := by k_is
      i15 := by k_is
      f15 := by k_is
      F15 := ⟨_, L2.fun_mk (by k_is) (by k_is) (by k_is)⟩
      t15 := by k_is
      z16 := by k_is
      i16 := by k_is
      f16 := by k_is
      F16 := ⟨_, L2.fun_mk (by k_is) (by k_is) (by k_is)⟩
      t16 := by k_is
      z17 := by k_is
      i17 := by k_is
      f17 := by k_is
      F17 := ⟨_, L2.fun_mk (by k_is) (by k_is) (by k_is)⟩
      t17 := by k_is
      z18 := by k_is
      i18 := by k_is
      f18 := by k_is
      F18 := ⟨_, L2.fun_mk (by k_is) (by k_is) (by k_is)⟩
      t18 := by k_is
      z19 := by k_is
      i19 := by k_is
      f19 := by k_is
      F19 := ⟨_, L2.fun_mk (by k_is) (by k_is) (by k_is)⟩
      t19 := by k_is
      z20 := by k_is
      i20 := by k_is
      f20 := by k_is
      F20 := ⟨_, L2.fun_mk (by k_is) (by k_is) (by k_is)⟩
      t20 := by k_is
      z21 := by k_is
      i21 := by k_is
      f21 := by k_is
      F21 := ⟨_, L2.fun_mk (by k_is) (by k_is) (by k_is)⟩
      t21 := by k_is
      z22 := by k_is
      i22 := by k_is
      f22 := by k_is
      F22 := ⟨_, L2.fun_mk (by k_is) (by k_is) (by k_is)⟩
      t22 := by k_is
      z23 := by k_is
      n23 := by k_is
      z24 := by k_is
      i24 := by k_is
      f24 := by k_is
      F24 := ⟨_, L2.fun_mk (by k_is) (by k_is) (by k_is)⟩
      t24 := by k_is
      z25 := by k_is
      n25 := by k_is
      z26 := by k_is
      i26 := by k_is
      f26 := by k_is
      F26 := ⟨_, L2.fun_mk (by k_is) (by k_is) (by k_is)⟩
      t26 := by k_is
      z27 := by k_is
      i27 := by k_is
      f27 := by k_is
      F27 := ⟨_, L2.fun_mk (by k_is) (by k_is) (by k_is)⟩
      t27 := by k_is
      z28 := by k_is
      i28 := by k_is
      f28 := by k_is
      F28 := ⟨_, L2.fun_mk (by k_is) (by k_is) (by k_is)⟩
      t28 := by k_is
      z30 := by k_is
      F30 := ⟨_, L2.fun_mk (by k_is) (by k_is) (by k_is)⟩
      z31 := by k_is
      F31 := ⟨_, L2.fun_mk (by k_is) (by k_is) (by k_is)⟩
      z32 := by k_is
      F32 := ⟨_, L2.fun_mk (by k_is) (by k_is) (by k_is)⟩
      z33 := by k_is
      F33 := ⟨_, L2.fun_mk (by k_is) (by k_is) (by k_is)⟩
      z34 := by k_is
      F34 := ⟨_, L2.fun_mk (by k_is) (by k_is) (by k_is)⟩
      z35 := by k_is
      F35 := ⟨_, L2.fun_mk (by k_is) (by k_is) (by k_is)⟩
      z36 := by k_is
      F36 := ⟨_, L2.fun_mk (by k_is) (by k_is) (by k_is)⟩
      z37 := by k_is
      F37 := ⟨_, L2.fun_mk (by k_is) (by k_is) (by k_is)⟩
      z38 := by k_is
      F38 := ⟨_, L2.fun_mk (by k_is) (by k_is) (by k_is)⟩
      z39 := by k_is
      F39 := ⟨_, L2.fun_mk (by k_is) (by k_is) (by k_is)⟩
      xs := by kernel_rfl
      hn := by k_is
      ht := by k_is
      no := by kernel_rfl
      kit := by kernel_rfl
      kitR := by kernel_rfl
      kitV := by kernel_rfl
      kitK := by kernel_rfl
      r1 := by k_is
      r2 := by k_is
      r3 := by k_is
      r4 := by k_is
      r5 := by k_is
      b_isinstance := by k_is
      b_ValueError := by k_is
      b_KeyError := by k_is
      b_list := by k_is
      b_len := by k_is
      b_repr := by k_is
      b_enumerate := by k_is
      b_range := by k_is
      b_zip := by k_is
    }
