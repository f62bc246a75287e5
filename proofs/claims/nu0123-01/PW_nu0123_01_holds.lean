import PyProof.Rows.All
import Wide.All
import OpenK.AllK
import Wide.FinOn
import PyProof.ListIndexNeg
import Lean
import PySem.Challenge.RW_nu0123_01
open PySem PySem.W PyProof.Rows PySem.Calls PySem.Spec
set_option Elab.async false
set_option maxRecDepth 100000
set_option compiler.extract_closed false
set_option genInjectivity false
set_option genSizeOfSpec false
set_option linter.all false
namespace Mine
set_option maxHeartbeats 8000000 in
open_top hd for PySem.Challenge.rw_nu0123_01
noncomputable abbrev Led := List (Addr × Obj)
structure Kept (h₀ : Heap) (L : Addr) (h : Heap) (rest : Led) : Prop where
  out : News h₀ L h rest
structure Seen (g : Heap) (rest : Led) : Prop where
  out : ∀ p ∈ rest, g.get? p.1 = some p.2
theorem Seen.off {g h : Heap} {L : Addr} {rest : Led} (S : Seen g rest) {news : Led} (N : News g L h news) : OwnOff rest (news.map (·.1)) := fun p hp b hb e => by
  obtain ⟨q, hq, rfl⟩ := List.mem_map.mp hb
  have h1 := S.out p hp
  rw [e, (N q hq).2.2] at h1
  cases h1
inductive Ins : List Addr → List Addr → Prop
  | nil {l : List Addr} : Ins [] l
  | cons {a : Addr} {r l : List Addr} : a ∈ l → Ins r l → Ins (a :: r) l
theorem Ins.all {r l : List Addr} (h : Ins r l) : ∀ b ∈ r, b ∈ l := by
  induction h with
  | nil => exact fun _ h => nomatch h
  | cons h _ ih => exact fun b hb => (List.mem_cons.mp hb).elim (fun e => e ▸ h) (ih b)
theorem Seen.off2 {g h : Heap} {L : Addr} {rest : Led} {adr : List Addr} (S : Seen g rest) {news : Led} (N : News g L h news) (hs : Ins adr (news.map (·.1))) : OwnOff rest adr :=
  fun p hp b hb => S.off N p hp b (hs.all b hb)
theorem offSub {l : Led} {big small : List Addr} (h : OwnOff l big) (hs : Ins small big) : OwnOff l small := fun p hp b hb => h p hp b (hs.all b hb)
noncomputable def Con (w : World) (mean : ExcName → Option Value) (mg mb : Str → Option Value) (f : Addr) (d : Nat) (vs : List Value) (news : Led) (Post : Value → Led → Prop) : Prop :=
  ∀ (dp un : Nat) (gd : Option (List Code)) (cn : Str) (cs : Scope) (a : Addr) (ccd : Value) (cl : List (Str × Addr)) (outer : List Env) (A₀ : Around) (base h₀ : Heap) (L : Addr) (m : Str → Option Value) (s : Shared) (rest : Led) (Q E : Value → Shared → Prop),
    Below A₀ base outer h₀ → Fr h₀ L s.heap m → (hd.heap_39 w.params).In h₀ → News h₀ L s.heap news → Kept h₀ L s.heap rest → OwnOff rest (news.map (·.1)) → Top hd.view_39 (looseW hd.view_39 []) mean mg mb h₀ → cs.kind = .function →
    dp + d < recursionLimit → un + 8 * d < cLine →
    (∀ v news' h' tk', Post v news' → Fr h₀ L h' m → News h₀ L h' news' → Kept h₀ L h' rest → Q v { s with heap := h', toks := tk' }) →
    wpAny (model PySem.Challenge.rw_nu0123_01.row.prog w) (ktrTop dp un gd cn cs L a ccd cl outer) (call (.ref f) vs) Q E s
inductive Pull (p : Addr × Obj) : Led → Led → Prop
  | head {r : Led} : Pull p (p :: r) r
  | tail {q : Addr × Obj} {l r : Led} : Pull p l r → Pull p (q :: l) (q :: r)
inductive Pulls : Led → Led → Led → Prop
  | nil {l : Led} : Pulls [] l l
  | cons {p : Addr × Obj} {ps l r r' : Led} : Pull p l r → Pulls ps r r' → Pulls (p :: ps) l r'
theorem Pull.mem {p : Addr × Obj} {l r : Led} (h : Pull p l r) : p ∈ l ∧ ∀ q ∈ r, q ∈ l := by
  induction h with
  | head => exact ⟨.head _, fun q hq => .tail _ hq⟩
  | tail _ ih => exact ⟨.tail _ ih.1, fun q hq => by
      rcases List.mem_cons.mp hq with rfl | hq
      · exact .head _
      · exact .tail _ (ih.2 q hq)⟩
theorem Pulls.mem {n l r : Led} (h : Pulls n l r) : (∀ p ∈ n, p ∈ l) ∧ ∀ q ∈ r, q ∈ l := by
  induction h with
  | nil => exact ⟨fun _ h => (nomatch h), fun _ h => h⟩
  | cons h1 _ ih => exact ⟨fun p hp => by
      rcases List.mem_cons.mp hp with rfl | hp
      · exact h1.mem.1
      · exact h1.mem.2 _ (ih.1 p hp), fun q hq => h1.mem.2 _ (ih.2 q hq)⟩
theorem Pulls.news {n l r : Led} {h₀ h : Heap} {L : Addr} (N : News h₀ L h l) (P : Pulls n l r) : News h₀ L h n := fun p hp => N p (P.mem.1 p hp)
theorem off_nil {adr : List Addr} : OwnOff [] adr := fun _ h => (nomatch h)
theorem off_cons {p : Addr × Obj} {r : Led} {adr : List Addr} (h1 : ∀ b ∈ adr, p.1 ≠ b) (h2 : OwnOff r adr) : OwnOff (p :: r) adr := fun q hq => by
  rcases List.mem_cons.mp hq with rfl | hq
  · exact h1
  · exact h2 q hq
theorem con_use {w : World} {mean : ExcName → Option Value} {mg mb : Str → Option Value} {f : Addr} {d : Nat} {vs : List Value} {news led rest : Led} {Post : Value → Led → Prop}
    {dp un : Nat} {gd : Option (List Code)} {cn : Str} {cs : Scope} {a : Addr} {ccd : Value} {cl : List (Str × Addr)} {outer : List Env} {A₀ : Around} {base h₀ : Heap} {L : Addr} {m : Str → Option Value} {s : Shared} {Q E : Value → Shared → Prop}
    (C : Con w mean mg mb f d vs news Post)
    (B : Below A₀ base outer h₀) (F : Fr h₀ L s.heap m) (X : (hd.heap_39 w.params).In h₀) (N : News h₀ L s.heap led) (P : Pulls news led rest) (off : OwnOff rest (news.map (·.1)))
    (T : Top hd.view_39 (looseW hd.view_39 []) mean mg mb h₀) (hk : cs.kind = .function) (hdp : dp + d < recursionLimit) (hun : un + 8 * d < cLine)
    (ret : ∀ v news' h' tk', Post v news' → Fr h₀ L h' m → News h₀ L h' (news' ++ rest) → Q v { s with heap := h', toks := tk' }) :
    wpAny (model PySem.Challenge.rw_nu0123_01.row.prog w) (ktrTop dp un gd cn cs L a ccd cl outer) (call (.ref f) vs) Q E s :=
  C dp un gd cn cs a ccd cl outer A₀ base h₀ L m s rest Q E B F X (fun p hp => N p (P.mem.1 p hp)) ⟨fun p hp => N p (P.mem.2 p hp)⟩ off T hk hdp hun fun v news' h' tk' hp F' N' NR' =>
    ret v news' h' tk' hp F' fun p hp => (List.mem_append.mp hp).elim (N' p) (NR'.out p)
theorem intEq {a b : Int} {t : Tok} (h : a = b) : Value.int a t = Value.int b t := by rw [h]
noncomputable def ConN (w : World) (mean : ExcName → Option Value) (mg mb : Str → Option Value) (f : Addr) (d : Nat) (vs : List Value) (news : Led) (Post : Value → Led → Prop) : Prop :=
  ∀ (dp un : Nat) (gd : Option (List Code)) (cn : Str) (cs : Scope) (a : Addr) (ccd : Value) (cl : List (Str × Addr)) (outer : List Env) (A₀ : Around) (base h₀ : Heap) (L : Addr) (m : Str → Option Value) (s : Shared) (rest : Led) (Q E : Value → Shared → Prop),
    Below A₀ base outer h₀ → Fr h₀ L s.heap m → (hd.heap_39 w.params).In h₀ → News h₀ L s.heap news → Kept h₀ L s.heap rest → OwnOff rest (news.map (·.1)) → Top hd.view_39 (looseW hd.view_39 []) mean mg mb h₀ → cs.kind = .function →
    dp + d < recursionLimit → un + 8 * d < cLine →
    (∀ v news' h' tk', Post v news' → Fr h₀ L h' m → News h₀ L h' news' → Kept h₀ L h' rest → OwnOff rest (news'.map (·.1)) → Q v { s with heap := h', toks := tk' }) →
    wpAny (model PySem.Challenge.rw_nu0123_01.row.prog w) (ktrTop dp un gd cn cs L a ccd cl outer) (call (.ref f) vs) Q E s
theorem conN_use {w : World} {mean : ExcName → Option Value} {mg mb : Str → Option Value} {f : Addr} {d : Nat} {vs : List Value} {news led rest : Led} {Post : Value → Led → Prop}
    {dp un : Nat} {gd : Option (List Code)} {cn : Str} {cs : Scope} {a : Addr} {ccd : Value} {cl : List (Str × Addr)} {outer : List Env} {A₀ : Around} {base h₀ : Heap} {L : Addr} {m : Str → Option Value} {s : Shared} {Q E : Value → Shared → Prop}
    (C : ConN w mean mg mb f d vs news Post)
    (B : Below A₀ base outer h₀) (F : Fr h₀ L s.heap m) (X : (hd.heap_39 w.params).In h₀) (N : News h₀ L s.heap led) (P : Pulls news led rest) (off : OwnOff rest (news.map (·.1)))
    (T : Top hd.view_39 (looseW hd.view_39 []) mean mg mb h₀) (hk : cs.kind = .function) (hdp : dp + d < recursionLimit) (hun : un + 8 * d < cLine)
    (ret : ∀ v news' h' tk', Post v news' → OwnOff rest (news'.map (·.1)) → Fr h₀ L h' m → News h₀ L h' (news' ++ rest) → Q v { s with heap := h', toks := tk' }) :
    wpAny (model PySem.Challenge.rw_nu0123_01.row.prog w) (ktrTop dp un gd cn cs L a ccd cl outer) (call (.ref f) vs) Q E s :=
  C dp un gd cn cs a ccd cl outer A₀ base h₀ L m s rest Q E B F X (fun p hp => N p (P.mem.1 p hp)) ⟨fun p hp => N p (P.mem.2 p hp)⟩ off T hk hdp hun fun v news' h' tk' hp F' N' NR' o' =>
    ret v news' h' tk' hp o' F' fun p hp => (List.mem_append.mp hp).elim (N' p) (NR'.out p)
theorem enterR {prog : Program} {w : World} {A A₀ : Around} {s : Shared} {K : Frag} {L : Addr} {h₀ base : Heap} {m mg mb : Str → Option Value} {news rest : Led} {p : Program} {loose : List Str} {mean : ExcName → Option Value}
    {env : Env} {outer : List Env} {R : Result → Shared → Prop} {name qual : Str} {params : Arguments} {body : List Stmt} {scope : Scope} {dV kV doc pm cdv ct oc : Value} {an od : Option Addr} {osl : Array (Option Value)} {f : Addr} {args : Args} {binds : List (Str × Value)}
    (B : Below A₀ base outer h₀) (F : Fr h₀ L s.heap m) (X₀ : K.In h₀) (N : News h₀ L s.heap news) (NR : Kept h₀ L s.heap rest) (off : OwnOff rest (news.map (·.1))) (T : Top p loose mean mg mb h₀) (hA : A.frames = some (env :: outer)) (hf : env.frame = some L) (hke : env.scope.kind = .function)
    (ho : K.lookup f = some ⟨oc, od, .func (fnOf name qual params body scope dV kV doc pm an cdv ct), osl⟩) (hcd : codeIn K cdv qual = true) (hroom : A.depth < recursionLimit)
    (hbind : BindsTo s (fnOf name qual params body scope dV kV doc pm an cdv ct) args binds) (hloc : ∀ y ∈ binds, scope.names.lookup y.1 = some .local)
    (h : ∀ g L' h₁, Fr h₀ L g m → Fr g L' h₁ (fun y => binds.reverse.lookup y) → News g L' h₁ news → Below A base (env :: outer) g → K.In g → Top p loose mean mg mb g → Seen g rest →
      wpAny (model prog w) (A.deeper (envOf qual scope L' f cdv)) (execs body (envOf qual scope L' f cdv))
        (fun fl s' => LeaveK h₀ L m g (fun r s'' => Kept h₀ L s''.heap rest → R r s'') (match fl with | .ret v => v | _ => .none) s')
        (fun _ _ => False)
        { s with heap := h₁, toks := s.toks + binds.length })
    (hco : scope.isCoroutine = false) (hgen : scope.isGenerator = false) (hk : scope.kind = .function)
    (hcell : ∀ x ∈ scope.names, x.2 ≠ .cell) : codeAny (model prog w) A (.call (.ref f) args) R s := by
  obtain ⟨FG, BG, st, lv⟩ := groundX (R := R) B F N hA hf hke
  refine codeAny_call_def (fd := fnX name qual params body scope [] dV kV doc pm an cdv ct) (body := body) (binds := binds) hroom ((X₀.keeps F.keep) _ _ ho) rfl (T.nolimit.keeps F.keep) (codeRec_of (X₀.keeps F.keep) hcd) rfl hbind hcell hloc (fun h₁ hns hk₁ => ?_) hco hgen hk
  refine wpAny_mono (h _ s.heap.objs.size h₁ FG ⟨hns, fun b o e => hk₁ b o (of_hideAll _ e), Nat.le_of_eq (hideAll_size _ _)⟩
    (fun p hp => ⟨hk₁ _ _ (N p hp).1, Nat.ne_of_lt (Heap.lt_size (N p hp).1), hideAll_none _ (List.mem_map_of_mem hp)⟩) BG (X₀.keeps st) (T.keeps st) ⟨fun p hp => hideAll_get _ (NR.out p hp).1 fun q => off p hp _ q rfl⟩) (fun fl s' hl => ?_) fun _ _ y => y.elim
  obtain ⟨L', m', news', F', N', k⟩ := hl
  refine lv _ _ ⟨L', m', news', F', N', fun a b => k a b ⟨fun p hp => ⟨F'.keep _ _ (hideAll_get _ (NR.out p hp).1 fun q => ?_), (NR.out p hp).2⟩⟩⟩
  exact off p hp _ q rfl
section
variable {prog : Program} {w : World} {A : Around} {E : Value → Shared → Prop} {s : Shared} {h₀ : Heap} {L l : Addr} {news : Led} {Q : Value → Shared → Prop}
theorem itemLit {value slice : PySem.Expr} {vs : List Value} {n : Nat} {k : Int} {u : Tok} {v : Value} (N : News h₀ L s.heap news) (hm : (l, listOf vs.toArray n) ∈ news)
    (h0 : 0 ≤ k) (hhi : k < 2 ^ 63) (hx : vs[k.toNat]? = some v) (h : Q v s)
    (hs : subscripted slice false (.ref l) (.int k u) = operate [.ref l, .int k u] (getItem (.ref l) (.int k u)) := by with_unfolding_all rfl) :
    wpAny (model prog w) A (subscriptTail value slice (.ref l) (.int k u)) Q E s :=
  have hl : s.heap.IsList l vs.toArray := ⟨_, (N _ hm).1, rfl, n, rfl⟩
  tail_any hl.typeIs slot_list_getitem.lookup (wpAny_getItem_list hl h0 hhi (by simpa using hx) h) hs
theorem itemAny {value slice : PySem.Expr} {vs : List Value} {n : Nat} {k : Int} {u : Tok} (N : News h₀ L s.heap news) (hm : (l, listOf vs.toArray n) ∈ news)
    (h0 : 0 ≤ k) (hk : k < vs.length) (hhi : k < 2 ^ 63) (h : ∀ v, vs[k.toNat]? = some v → Q v s)
    (hs : subscripted slice false (.ref l) (.int k u) = operate [.ref l, .int k u] (getItem (.ref l) (.int k u)) := by with_unfolding_all rfl) :
    wpAny (model prog w) A (subscriptTail value slice (.ref l) (.int k u)) Q E s := by
  have hl : s.heap.IsList l vs.toArray := ⟨_, (N _ hm).1, rfl, n, rfl⟩
  have hx : vs[k.toNat]? = some vs[k.toNat] := List.getElem?_eq_getElem (by omega)
  exact tail_any hl.typeIs slot_list_getitem.lookup (wpAny_getItem_list hl h0 hhi (by simpa using hx) (h _ hx)) hs
theorem neNil {b : Addr} {vs : List Value} {n n2 : Nat} (N : News h₀ L s.heap news) (hm : (l, listOf vs.toArray n) ∈ news) (hb : (b, listOf ([] : List Value).toArray n2) ∈ news) (hu : A.units < cLine)
    (h : Q (.bool (!vs.isEmpty)) s) : wpAny (model prog w) A (compareOp .NotEq (.ref l) (.ref b)) Q E s := by
  have hl : s.heap.IsList l vs.toArray := ⟨_, (N _ hm).1, rfl, n, rfl⟩
  have hb' : s.heap.IsList b ([] : List Value).toArray := ⟨_, (N _ hb).1, rfl, n2, rfl⟩
  refine cmp_ofNotEq ?_
  cases vs with
  | nil => exact PySem.SeqAt.RcNeAt.lists (e := fun _ => true) hl hb' rfl hu (fun j h1 _ => absurd h1 (Nat.not_lt_zero _)) prog w E Q (by simpa using h)
  | cons v r => exact PySem.SeqAt.RcNeAt.lists_lengths hl hb' (by simp) hu prog w E Q (by simpa using h)
theorem mulSmall {a b : Int} (ha : a.natAbs < 2 ^ 64) (hb : b.natAbs < 2 ^ 64) : IntMulOk a b :=
  mulOk_of_bits (m := 64) (n := 64) (intBits_le_iff.mpr ha) (intBits_le_iff.mpr hb) (by decide)
end
theorem fmodIn {x top : Int} (h : 0 < top) : 0 ≤ x.fmod top ∧ x.fmod top < top := by
  have f := fdiv_fmod_facts x top
  have g := f.2.2.1 h
  omega
theorem fdivIn {x top : Int} (hx : 0 ≤ x) (h : 0 < top) : 0 ≤ x.fdiv top := by
  have e : x.fdiv top = x / top := Int.fdiv_eq_ediv_of_nonneg x (by omega)
  rw [e]
  exact Int.ediv_nonneg hx (by omega)
structure ET where
  (k1 k2 k3 k4 k5 k6 t1 t2 t3 t4 t5 t6 : Tok)
noncomputable abbrev estD (w : World) (T : ET) (mt m8 s4 ms : Int) : Obj := dictOf [
  ⟨PyData.keyHash w.params (Str.ofString "first"), .str (Str.ofString "first") T.k1, .int 6 T.t1⟩,
  ⟨PyData.keyHash w.params (Str.ofString "least"), .str (Str.ofString "least") T.k2, .int 2 T.t2⟩,
  ⟨PyData.keyHash w.params (Str.ofString "most"), .str (Str.ofString "most") T.k3, .int mt T.t3⟩,
  ⟨PyData.keyHash w.params (Str.ofString "mean8"), .str (Str.ofString "mean8") T.k4, .int m8 T.t4⟩,
  ⟨PyData.keyHash w.params (Str.ofString "spread4"), .str (Str.ofString "spread4") T.k5, .int s4 T.t5⟩,
  ⟨PyData.keyHash w.params (Str.ofString "measured"), .str (Str.ofString "measured") T.k6, .int ms T.t6⟩] 6
noncomputable abbrev estL (w : World) (e d : Addr) (T : ET) (mt m8 s4 ms : Int) : Led := [(e, instObj 164 d), (d, estD w T mt m8 s4 ms)]
noncomputable def bnd (mt t : Int) : Int := if t < 2 then 2 else if mt < t then mt else t
noncomputable def plainT (m8 s4 ms : Int) : Int := if ms = 0 then 6 else m8.fdiv 8 + s4
noncomputable def tmo (mt m8 s4 ms : Int) : Int := bnd mt (plainT m8 s4 ms)
theorem lt_room {a b c : Nat} (h : b < c) (h2 : a ≤ b) : a < c := Nat.lt_of_le_of_lt h2 h
structure Side (w : World) (mean : ExcName → Option Value) (mg mb : Str → Option Value) (d : Nat) (news led rest : Led) (dp un : Nat) (cs : Scope) (outer : List Env) (A₀ : Around) (base h₀ : Heap) (L : Addr) (m : Str → Option Value) (h : Heap) : Prop where
  sB : Below A₀ base outer h₀
  sF : Fr h₀ L h m
  sX : (hd.heap_39 w.params).In h₀
  sN : News h₀ L h led
  sP : Pulls news led rest
  sO : OwnOff rest (news.map (·.1))
  sT : Top hd.view_39 (looseW hd.view_39 []) mean mg mb h₀
  sK : cs.kind = .function
  sd : dp + d < recursionLimit
  su : un + 8 * d < cLine
theorem con_x {w : World} {mean : ExcName → Option Value} {mg mb : Str → Option Value} {f : Addr} {d : Nat} {vs : List Value} {news led rest : Led} {Post : Value → Led → Prop}
    {dp un : Nat} {gd : Option (List Code)} {cn : Str} {cs : Scope} {a : Addr} {ccd : Value} {cl : List (Str × Addr)} {outer : List Env} {A₀ : Around} {base h₀ : Heap} {L : Addr} {m : Str → Option Value} {s : Shared} {Q E : Value → Shared → Prop}
    (C : Con w mean mg mb f d vs news Post) (S : Side w mean mg mb d news led rest dp un cs outer A₀ base h₀ L m s.heap)
    (ret : ∀ v news' h' tk', Post v news' → Fr h₀ L h' m → News h₀ L h' (news' ++ rest) → Q v { s with heap := h', toks := tk' }) :
    wpAny (model PySem.Challenge.rw_nu0123_01.row.prog w) (ktrTop dp un gd cn cs L a ccd cl outer) (call (.ref f) vs) Q E s :=
  con_use C S.sB S.sF S.sX S.sN S.sP S.sO S.sT S.sK S.sd S.su ret
@[irreducible] noncomputable def STOP (P : Prop) : Prop := P
theorem stop_here {P : Prop} (h : STOP P) : P := by unfold STOP at h; exact h
theorem stop_on {P : Prop} (h : P) : STOP P := by unfold STOP; exact h
theorem con_0 {w : World} {mean : ExcName → Option Value} {mg mb : Str → Option Value} {f : Addr} {d : Nat} {vs : List Value} {news led rest : Led}
    {dp un : Nat} {gd : Option (List Code)} {cn : Str} {cs : Scope} {a : Addr} {ccd : Value} {cl : List (Str × Addr)} {outer : List Env} {A₀ : Around} {base h₀ : Heap} {L : Addr} {m : Str → Option Value} {s : Shared} {Q E : Value → Shared → Prop} {V : Value} {M : Led}
    (C : Con w mean mg mb f d vs news (fun v news' => v = V ∧ news' = M)) (S : Side w mean mg mb d news led rest dp un cs outer A₀ base h₀ L m s.heap)
    (ret : ∀ (h' : Heap) (tk' : Nat), Fr h₀ L h' m → News h₀ L h' (M ++ rest) → Q V { s with heap := h', toks := tk' }) :
    wpAny (model PySem.Challenge.rw_nu0123_01.row.prog w) (ktrTop dp un gd cn cs L a ccd cl outer) (call (.ref f) vs) Q E s :=
  con_x C S (fun v n h tk hp F N => by
    obtain ⟨rfl, rfl⟩ := hp
    exact ret h tk F N)
theorem con_1 {w : World} {mean : ExcName → Option Value} {mg mb : Str → Option Value} {f : Addr} {d : Nat} {vs : List Value} {news led rest : Led}
    {dp un : Nat} {gd : Option (List Code)} {cn : Str} {cs : Scope} {a : Addr} {ccd : Value} {cl : List (Str × Addr)} {outer : List Env} {A₀ : Around} {base h₀ : Heap} {L : Addr} {m : Str → Option Value} {s : Shared} {Q E : Value → Shared → Prop} {X : Int} {M : Led}
    (C : Con w mean mg mb f d vs news (fun v news' => ∃ t, v = .int X t ∧ news' = M)) (S : Side w mean mg mb d news led rest dp un cs outer A₀ base h₀ L m s.heap)
    (ret : ∀ (t : Tok) (h' : Heap) (tk' : Nat), Fr h₀ L h' m → News h₀ L h' (M ++ rest) → Q (.int X t) { s with heap := h', toks := tk' }) :
    wpAny (model PySem.Challenge.rw_nu0123_01.row.prog w) (ktrTop dp un gd cn cs L a ccd cl outer) (call (.ref f) vs) Q E s :=
  con_x C S (fun v n h tk hp F N => by
    obtain ⟨t, rfl, rfl⟩ := hp
    exact ret t h tk F N)
theorem con_t {w : World} {mean : ExcName → Option Value} {mg mb : Str → Option Value} {f : Addr} {d : Nat} {vs : List Value} {news led rest : Led}
    {dp un : Nat} {gd : Option (List Code)} {cn : Str} {cs : Scope} {a : Addr} {ccd : Value} {cl : List (Str × Addr)} {outer : List Env} {A₀ : Around} {base h₀ : Heap} {L : Addr} {m : Str → Option Value} {s : Shared} {Q E : Value → Shared → Prop} {src : Addr} {top : Int}
    (C : Con w mean mg mb f d vs news (fun v news' => ∃ d td a' ta' b' tb' n', v = .int d td ∧ 0 ≤ d ∧ d < top ∧ 0 ≤ a' ∧ 0 ≤ b' ∧ b' < 2147483647 ∧ news' = [(src, listOf #[.int a' ta', .int b' tb'] n')])) (S : Side w mean mg mb d news led rest dp un cs outer A₀ base h₀ L m s.heap)
    (ret : ∀ (d : Int) (td : Tok) (a' : Int) (ta' : Tok) (b' : Int) (tb' : Tok) (n' : Nat) (h' : Heap) (tk' : Nat), 0 ≤ d → d < top → 0 ≤ a' → 0 ≤ b' → b' < 2147483647 → Fr h₀ L h' m → News h₀ L h' ((src, listOf #[.int a' ta', .int b' tb'] n') :: rest) → Q (.int d td) { s with heap := h', toks := tk' }) :
    wpAny (model PySem.Challenge.rw_nu0123_01.row.prog w) (ktrTop dp un gd cn cs L a ccd cl outer) (call (.ref f) vs) Q E s :=
  con_x C S (fun v n h tk hp F N => by
    obtain ⟨d, td, a, ta, b, tb, c, rfl, h1, h2, h3, h4, h5, rfl⟩ := hp
    exact ret d td a ta b tb c h tk h1 h2 h3 h4 h5 F N)
theorem con_o {w : World} {mean : ExcName → Option Value} {mg mb : Str → Option Value} {f : Addr} {d : Nat} {vs : List Value} {news led rest : Led}
    {dp un : Nat} {gd : Option (List Code)} {cn : Str} {cs : Scope} {a : Addr} {ccd : Value} {cl : List (Str × Addr)} {outer : List Env} {A₀ : Around} {base h₀ : Heap} {L : Addr} {m : Str → Option Value} {s : Shared} {Q E : Value → Shared → Prop} {src th : Addr} {us : List Value} {n2 : Nat}
    (C : Con w mean mg mb f d vs news (fun v news' => v ∈ us ∧ ∃ a' ta' b' tb' n', 0 ≤ a' ∧ 0 ≤ b' ∧ b' < 2147483647 ∧ news' = [(src, listOf #[.int a' ta', .int b' tb'] n'), (th, listOf us.toArray n2)])) (S : Side w mean mg mb d news led rest dp un cs outer A₀ base h₀ L m s.heap)
    (ret : ∀ (v : Value) (a' : Int) (ta' : Tok) (b' : Int) (tb' : Tok) (n' : Nat) (h' : Heap) (tk' : Nat), v ∈ us → 0 ≤ a' → 0 ≤ b' → b' < 2147483647 → Fr h₀ L h' m → News h₀ L h' ((src, listOf #[.int a' ta', .int b' tb'] n') :: (th, listOf us.toArray n2) :: rest) → Q v { s with heap := h', toks := tk' }) :
    wpAny (model PySem.Challenge.rw_nu0123_01.row.prog w) (ktrTop dp un gd cn cs L a ccd cl outer) (call (.ref f) vs) Q E s :=
  con_x C S (fun v n h tk hp F N => by
    obtain ⟨h0, a, ta, b, tb, c, h3, h4, h5, rfl⟩ := hp
    exact ret v a ta b tb c h tk h0 h3 h4 h5 F N)
theorem mem2 {v : Value} {a b : Int} {ta tb : Tok} (h : v ∈ [Value.int a ta, .int b tb]) : ∃ x t, v = .int x t ∧ (x = a ∨ x = b) := by
  simp only [List.mem_cons, List.not_mem_nil, or_false] at h
  rcases h with h | h
  · exact ⟨_, _, h, .inl rfl⟩
  · exact ⟨_, _, h, .inr rfl⟩
theorem mem3 {v : Value} {a b c : Int} {ta tb tc : Tok} (h : v ∈ [Value.int a ta, .int b tb, .int c tc]) : ∃ x t, v = .int x t ∧ (x = a ∨ x = b ∨ x = c) := by
  simp only [List.mem_cons, List.not_mem_nil, or_false] at h
  rcases h with h | h | h
  · exact ⟨_, _, h, .inl rfl⟩
  · exact ⟨_, _, h, .inr (.inl rfl)⟩
  · exact ⟨_, _, h, .inr (.inr rfl)⟩
theorem con_o2 {w : World} {mean : ExcName → Option Value} {mg mb : Str → Option Value} {f : Addr} {d : Nat} {vs : List Value} {news led rest : Led}
    {dp un : Nat} {gd : Option (List Code)} {cn : Str} {cs : Scope} {a : Addr} {ccd : Value} {cl : List (Str × Addr)} {outer : List Env} {A₀ : Around} {base h₀ : Heap} {L : Addr} {m : Str → Option Value} {s : Shared} {Q E : Value → Shared → Prop} {src th : Addr} {x1 x2 : Int} {t1 t2 : Tok} {n2 : Nat}
    (C : Con w mean mg mb f d vs news (fun v news' => v ∈ [Value.int x1 t1, .int x2 t2] ∧ ∃ a' ta' b' tb' n', 0 ≤ a' ∧ 0 ≤ b' ∧ b' < 2147483647 ∧ news' = [(src, listOf #[.int a' ta', .int b' tb'] n'), (th, listOf [Value.int x1 t1, .int x2 t2].toArray n2)])) (S : Side w mean mg mb d news led rest dp un cs outer A₀ base h₀ L m s.heap)
    (ret : ∀ (x : Int) (t : Tok) (a' : Int) (ta' : Tok) (b' : Int) (tb' : Tok) (n' : Nat) (h' : Heap) (tk' : Nat), x = x1 ∨ x = x2 → 0 ≤ a' → 0 ≤ b' → b' < 2147483647 → Fr h₀ L h' m → News h₀ L h' ((src, listOf #[.int a' ta', .int b' tb'] n') :: (th, listOf [Value.int x1 t1, .int x2 t2].toArray n2) :: rest) → Q (.int x t) { s with heap := h', toks := tk' }) :
    wpAny (model PySem.Challenge.rw_nu0123_01.row.prog w) (ktrTop dp un gd cn cs L a ccd cl outer) (call (.ref f) vs) Q E s :=
  con_x C S (fun v n h tk hp F N => by
    obtain ⟨h0, a, ta, b, tb, c, h3, h4, h5, rfl⟩ := hp
    obtain ⟨x, t, rfl, hx⟩ := mem2 h0
    exact ret x t a ta b tb c h tk hx h3 h4 h5 F N)
theorem con_o3 {w : World} {mean : ExcName → Option Value} {mg mb : Str → Option Value} {f : Addr} {d : Nat} {vs : List Value} {news led rest : Led}
    {dp un : Nat} {gd : Option (List Code)} {cn : Str} {cs : Scope} {a : Addr} {ccd : Value} {cl : List (Str × Addr)} {outer : List Env} {A₀ : Around} {base h₀ : Heap} {L : Addr} {m : Str → Option Value} {s : Shared} {Q E : Value → Shared → Prop} {src th : Addr} {x1 x2 x3 : Int} {t1 t2 t3 : Tok} {n2 : Nat}
    (C : Con w mean mg mb f d vs news (fun v news' => v ∈ [Value.int x1 t1, .int x2 t2, .int x3 t3] ∧ ∃ a' ta' b' tb' n', 0 ≤ a' ∧ 0 ≤ b' ∧ b' < 2147483647 ∧ news' = [(src, listOf #[.int a' ta', .int b' tb'] n'), (th, listOf [Value.int x1 t1, .int x2 t2, .int x3 t3].toArray n2)])) (S : Side w mean mg mb d news led rest dp un cs outer A₀ base h₀ L m s.heap)
    (ret : ∀ (x : Int) (t : Tok) (a' : Int) (ta' : Tok) (b' : Int) (tb' : Tok) (n' : Nat) (h' : Heap) (tk' : Nat), x = x1 ∨ x = x2 ∨ x = x3 → 0 ≤ a' → 0 ≤ b' → b' < 2147483647 → Fr h₀ L h' m → News h₀ L h' ((src, listOf #[.int a' ta', .int b' tb'] n') :: (th, listOf [Value.int x1 t1, .int x2 t2, .int x3 t3].toArray n2) :: rest) → Q (.int x t) { s with heap := h', toks := tk' }) :
    wpAny (model PySem.Challenge.rw_nu0123_01.row.prog w) (ktrTop dp un gd cn cs L a ccd cl outer) (call (.ref f) vs) Q E s :=
  con_x C S (fun v n h tk hp F N => by
    obtain ⟨h0, a, ta, b, tb, c, h3, h4, h5, rfl⟩ := hp
    obtain ⟨x, t, rfl, hx⟩ := mem3 h0
    exact ret x t a ta b tb c h tk hx h3 h4 h5 F N)
structure CT where
  (k1 k2 k3 k4 k5 t2 t3 t5 : Tok)
noncomputable abbrev clkD (w : World) (T : CT) (e : Addr) (my tr : Int) (te : Value) (ta : Int) : Obj := dictOf [
  ⟨PyData.keyHash w.params (Str.ofString "estimate"), .str (Str.ofString "estimate") T.k1, .ref e⟩,
  ⟨PyData.keyHash w.params (Str.ofString "most_tries"), .str (Str.ofString "most_tries") T.k2, .int my T.t2⟩,
  ⟨PyData.keyHash w.params (Str.ofString "tries"), .str (Str.ofString "tries") T.k3, .int tr T.t3⟩,
  ⟨PyData.keyHash w.params (Str.ofString "timed_end"), .str (Str.ofString "timed_end") T.k4, te⟩,
  ⟨PyData.keyHash w.params (Str.ofString "timed_at"), .str (Str.ofString "timed_at") T.k5, .int ta T.t5⟩] 5
noncomputable abbrev clkL (w : World) (c d : Addr) (T : CT) (e : Addr) (my tr : Int) (te : Value) (ta : Int) : Led := [(c, instObj 108 d), (d, clkD w T e my tr te ta)]
noncomputable abbrev bothL (w : World) (c d : Addr) (T : CT) (e ed : Addr) (my tr : Int) (te : Value) (ta : Int) (TE : ET) (mt m8 s4 ms : Int) : Led :=
  [(c, instObj 108 d), (d, clkD w T e my tr te ta), (e, instObj 164 ed), (ed, estD w TE mt m8 s4 ms)]
local macro_rules | `(tactic| walk_at $s:str) => `(tactic| k_extra $s)
local macro_rules | `(tactic| k_ne) => `(tactic| walk_at "r ne")
theorem lines84 : True := by
  k_with "r ne" => first | (with_reducible first | assumption | exact Ne.symm (by assumption) | exact Nat.ne_of_lt (by assumption) | exact Nat.ne_of_gt (by assumption)) | (refine Nat.ne_of_gt ?_; (simp only [*] <;> done)) | (refine Nat.ne_of_lt ?_; (simp only [*] <;> done)) | (refine neN ?_; (try dsimp only); omega)
  k_with "r lt" => first | exact Nat.lt_of_ble_eq_true rfl | (refine lt_room (by with_reducible assumption) ?_; (simp only [Nat.add_assoc, Nat.reduceAdd, Nat.reduceMul, Nat.add_le_add_iff_left, Nat.reduceLeDiff, Nat.le_add_right, Nat.le_refl] <;> done))
  trivial
local macro_rules | `(tactic| ktr_room) => `(tactic| walk_at "r lt")
local macro_rules | `(tactic| ktr_units) => `(tactic| walk_at "r lt")
theorem lines85 : True := by
  k_with "r enter" => (refine' enterR ?k1w9 ?k2w9 ?k3w9 ?k4w9 ?kRw9 ?kOw9 ?k5w9 ?kAw9 ?kFw9 ?kKw9 ?k6w9 ?k7w9 ?k8w9 ?k9w9 ?kBw9 ?_ ?c2w9 ?c3w9 ?c4w9 ?c5w9; (case kAw9 | kFw9 => exact rfl); (case kKw9 => assumption); (case k1w9 | k2w9 | k3w9 | k4w9 | kRw9 | kOw9 | k5w9 => k_asm); (case k6w9 | k7w9 => k_is); (case k8w9 => ktr_room); (case k9w9 => exact BindsTo.of_eq rfl); (case c5w9 => decide); (case kBw9 => exact locs rfl); (case c2w9 | c3w9 | c4w9 => exact rfl); k_whole)
  k_with "r in" => (refine wpAny_call ?_; k_dflt (walk_at "r enter"); intro g' L' h' FG' F' N' B' X' T' S'; (try dsimp only); (try k_fold))
  k_with "subscriptTail Name Constant ref int" => (k_here; k_dflt (refine' itemLit ?kNw9 ?kMw9 ?k0w9 ?khw9 ?kxw9 ?_ ?ksw9; (case kNw9 => k_asm); (case kMw9 => k_mem); (case k0w9 | khw9 => decide); (case kxw9 | ksw9 => with_unfolding_all rfl); k_whole))
  k_with "binaryOp Mult int int" => (k_here; refine mul_int ?_ (mulSmall (by omega) (by omega)))
  k_with "r pulls" => repeat' (first | exact Pulls.nil | refine' Pulls.cons ?_ ?_ | with_reducible exact Pull.head | refine' Pull.tail ?_)
  k_with "r off" => repeat' (first | exact off_nil | assumption | (refine offSub (by assumption) ?_; walk_at "r ins"; done) | refine off_cons ?_ ?_ | exact List.forall_mem_nil _ | refine List.forall_mem_cons.mpr ⟨?_, ?_⟩ | k_ne)
  k_with "r s" => (case Sw9 => (refine' Side.mk ?kBw9 ?kFw9 ?kXw9 ?kNw9 ?kPw9 ?kOw9 ?kTw9 ?kKw9 ?kdw9 ?kuw9; (case kBw9 | kFw9 | kXw9 | kNw9 => k_asm); (case kPw9 => walk_at "r pulls"); (case kOw9 => walk_at "r off"); (case kTw9 => k_asm); (case kKw9 => first | exact rfl | assumption); (case kdw9 => ktr_room); (case kuw9 => ktr_units)))
  k_with "r c" => first | assumption | k_ne | omega | exact Nat.le_of_ble_eq_true rfl
  k_with "r fin" => (with_reducible rename News _ _ _ _ => N9; (try simp only [clkL, estL, bothL, List.cons_append, List.nil_append, List.append_nil] at N9); (try k_sweep); (try dsimp only); (try k_fold))
  k_with "r p0" => (intro h9 tk9 F9 N9; walk_at "r fin")
  k_with "r p1" => (intro t9 h9 tk9 F9 N9; walk_at "r fin")
  k_with "r p5" => (intro T9 te9 h9 tk9 io9 F9 N9; walk_at "r fin")
  k_with "r ret" => (with_reducible rename ∀ (v : Value) (news' : Led) (h' : Heap) (tk' : Nat), _ → Fr _ _ _ _ → News _ _ _ _ → Kept _ _ _ _ → _ => hret9; refine' hret9 _ _ _ _ ?_ ?fw9 ?nw9 ?kw9; (case fw9 | nw9 | kw9 => k_asm))
  k_with "r ins" => ((try simp only [List.map_cons, List.map_nil]); repeat' (first | exact Ins.nil | refine' Ins.cons ?_ ?_ | with_reducible exact List.mem_cons_self | refine' List.mem_cons_of_mem _ ?_))
  k_with "call ref" => (k_here; (with_reducible show wpAny _ _ (call (Prod.fst _) _) _ _ _); dsimp only; walk1)
  trivial
set_option maxHeartbeats 8000000 in
theorem take_con (w : World) (mean : ExcName → Option Value) (mg mb : Str → Option Value) (src : Addr) (a b : Int) (ta tb n : Nat) (top : Int) (tt : Tok)
   (ha : 0 ≤ a) (hb0 : 0 ≤ b) (hb1 : b < 2147483647) (ht : 0 < top) (ht2 : top < 4096) :
   Con w mean mg mb 182 1 [.ref src, .int top tt] [(src, listOf #[.int a ta, .int b tb] n)]
     (fun v news' => ∃ d td a' ta' b' tb' n', v = .int d td ∧ 0 ≤ d ∧ d < top ∧ 0 ≤ a' ∧ 0 ≤ b' ∧ b' < 2147483647 ∧ news' = [(src, listOf #[.int a' ta', .int b' tb'] n')]) := by
  unfold Con
  k_fill
  w_top off
  intro dp un gd cn cs x ccd cl outer A₀ base h₀ L m s rest Q E B F X N NR off T hk hdp hun hret
  walk_at "r in"
  have hf := fmodIn (x := b * 39373 + 7) (top := 2147483647) (by decide)
  k_steps
  · refine hret _ _ _ _ ⟨_, _, _, _, _, _, _, rfl, (fmodIn ht).1, (fmodIn ht).2, fdivIn ha ht, hb0, hb1, rfl⟩ (by k_asm) (by k_asm) (by assumption)
  · refine hret _ _ _ _ ⟨_, _, _, _, _, _, _, rfl, (fmodIn ht).1, (fmodIn ht).2, ha, hf.1, hf.2, rfl⟩ (by k_asm) (by k_asm) (by assumption)
section
variable {prog : Program} {w : World} {A : Around} {E : Value → Shared → Prop} {s : Shared} {env : Env} {h₀ : Heap} {x : Str} {body : List Stmt} {Q : Flow → Shared → Prop}
theorem range_iter {L : Addr} {r : Addr} {b : Int} {t₀ u₀ v₀ : Tok} {n : Nat} {m₀ : Str → Option Value} {news : Led} (J : Nat → (Str → Option Value) → Led → Prop)
    (hLe : env.locals = L) (hh : A.handled = none) (hr : IsRange s.heap r 0 b 1 t₀ u₀ v₀) (hsmall : Builtin.Range.small 0 b 1 = true) (hn : Builtin.Range.rangeSize 0 b 1 = (n : Int))
    (F : Fr h₀ L s.heap m₀) (N : News h₀ L s.heap news) (hJ : J 0 m₀ news)
    (turn : ∀ (i : Nat) t h tk own m₁ news₁, i < n → J i m₁ news₁ → OwnOff own (news₁.map (·.1)) → Fr h₀ L h (fun y => if y = x then some (.int (i : Int) t) else m₁ y) → News h₀ L h (news₁ ++ own) →
      ∀ (Q' : Flow → Shared → Prop), (∀ h' tk' m₂ news₂, Fr h₀ L h' m₂ → News h₀ L h' (news₂ ++ own) → OwnOff own (news₂.map (·.1)) → J (i + 1) m₂ news₂ → Q' .next { s with heap := h', toks := tk' }) →
      wpAny (model prog w) A (execs body env) Q' E { s with heap := h, toks := tk })
    (done : ∀ h' tk m₁ news₁, Fr h₀ L h' m₁ → News h₀ L h' news₁ → J n m₁ news₁ → Q .next { s with heap := h', toks := tk }) :
    wpAny (model prog w) A (pyIter (.ref r)) (fun it s₂ => LoopAtV prog w A h₀ env x body Q E it s₂) E s := by
  subst hLe
  refine wpAny_pyIter_range hr hsmall ?_
  have W : Walks prog w A s.heap.objs.size [s.heap.objs.size] [s.heap.objs.size] n (fun i v => i < n ∧ ∃ t, v = .int (0 + i * 1) t)
      (fun i h => IsRangeIter h s.heap.objs.size (0 + (i : Nat) * 1) ((n : Int) - (i : Nat)) 1) := (Walks.range hh _ 0 1 n).bound
  have hnew : h₀.get? s.heap.objs.size = none := next_is_new F
  refine ⟨_, _, _, n, _, _, m₀, news, J, rfl, W, ?_, ?_, ?_, ?_, F.push _, (fun p hp => ⟨Heap.get?_push_of_some _ (N p hp).1, (N p hp).2⟩), hJ, ?_, ?_⟩
  · intro hm
    exact absurd F.ns.lt ((List.mem_singleton.mp hm) ▸ Nat.lt_irrefl _)
  · intro b hb
    rw [List.mem_singleton.mp hb]
    exact hnew
  · intro p hp hI
    exact absurd (Heap.lt_size (N p hp).1) ((List.mem_singleton.mp hI) ▸ Nat.lt_irrefl _)
  · show IsRangeIter _ _ _ _ _
    rw [hn]
    simpa using Heap.get?_push_size _ rfl
  · rintro i v m₁ news₁ s₁ own ⟨hh', tk', rfl⟩ hin ⟨_, t, rfl⟩ hj hoff hown _ hall st F₁ N₁
    have e : (0 + (i : Int) * 1) = (i : Int) := by omega
    rw [e] at F₁
    have offO : ∀ nn : Led, (∀ p ∈ nn, p.1 ∉ [s.heap.objs.size]) → OwnOff own (nn.map (·.1)) := by
      intro nn h p hp b hb q
      obtain ⟨z, hz, rfl⟩ := List.mem_map.mp hb
      exact h z hz (q ▸ hown p hp)
    have hq := hall s.heap.objs.size (List.mem_singleton.mpr rfl) hnew _ st
    have hqI : ∀ p ∈ own, p.1 = s.heap.objs.size := fun p hp => List.mem_singleton.mp (hown p hp)
    refine turn i t hh' tk' own m₁ news₁ hin hj (offO _ hoff) F₁ (fun p hp => N₁ p ((List.mem_append.mp hp).elim (List.mem_append_right _) (List.mem_append_left _))) _ fun h₂ tk₂ m₂ news₂ F₂ N₂ O₂ hj₂ => ?_
    refine .next (LoopStepU.intro F₂ (fun p hp => N₂ p ((List.mem_append.mp hp).elim (List.mem_append_right _) (List.mem_append_left _))) (news₂ := news₂) (fun p hp hI => ?_) hj₂)
    exact O₂ _ hq p.1 (List.mem_map_of_mem hp) (List.mem_singleton.mp hI).symm
  · intro h' tk m' news' F' N' _ hj
    exact done h' tk m' news' F' N' hj
end
set_option maxHeartbeats 8000000 in
theorem bounded_con (w : World) (mean : ExcName → Option Value) (mg mb : Str → Option Value) (e d : Addr) (T : ET) (mt m8 s4 ms : Int) (x : Int) (tt : Tok) :
   Con w mean mg mb 161 1 [.ref e, .int x tt] (estL w e d T mt m8 s4 ms)
     (fun v news' => ∃ t, v = .int (bnd mt x) t ∧ news' = estL w e d T mt m8 s4 ms) := by
  unfold Con
  k_fill
  w_top off
  intro dp un gd cn cs x ccd cl outer A₀ base h₀ L m s rest Q E B F X N NR off T hk hdp hun hret
  walk_at "r in"
  k_steps
  all_goals refine hret _ _ _ _ ⟨_, intEq ?_, rfl⟩ (by k_asm) (by k_asm) (by assumption)
  all_goals (unfold bnd; (repeat' split) <;> omega)
set_option maxHeartbeats 8000000 in
theorem plain_con (w : World) (mean : ExcName → Option Value) (mg mb : Str → Option Value) (e d : Addr) (T : ET) (mt m8 s4 ms : Int) :
   Con w mean mg mb 147 1 [.ref e] (estL w e d T mt m8 s4 ms)
     (fun v news' => ∃ t, v = .int (plainT m8 s4 ms) t ∧ news' = estL w e d T mt m8 s4 ms) := by
  unfold Con
  k_fill
  w_top off
  intro dp un gd cn cs x ccd cl outer A₀ base h₀ L m s rest Q E B F X N NR off T hk hdp hun hret
  walk_at "r in"
  k_steps
  all_goals refine hret _ _ _ _ ⟨_, intEq ?_, rfl⟩ (by k_asm) (by k_asm) (by assumption)
  all_goals (unfold plainT; (repeat' split) <;> first | rfl | omega)
theorem lines86 : True := by
  k_with "call ref" => (k_here; (with_reducible show wpAny _ _ (call (Value.ref 161) _) _ _ _); k_dflt (refine' con_1 (bounded_con _ _ _ _ _ _ _ _ _ _ _ _ _) ?Sw9 ?_; walk_at "r s"); walk_at "r p1")
  k_with "call ref" => (k_here; (with_reducible show wpAny _ _ (call (Value.ref 147) _) _ _ _); k_dflt (refine' con_1 (plain_con _ _ _ _ _ _ _ _ _ _ _) ?Sw9 ?_; walk_at "r s"); walk_at "r p1")
  trivial
set_option maxHeartbeats 8000000 in
theorem timeout_con (w : World) (mean : ExcName → Option Value) (mg mb : Str → Option Value) (e d : Addr) (T : ET) (mt m8 s4 ms : Int) :
   Con w mean mg mb 154 2 [.ref e] (estL w e d T mt m8 s4 ms)
     (fun v news' => ∃ t, v = .int (tmo mt m8 s4 ms) t ∧ news' = estL w e d T mt m8 s4 ms) := by
  unfold Con
  k_fill
  w_top off
  intro dp un gd cn cs x ccd cl outer A₀ base h₀ L m s rest Q E B F X N NR off T hk hdp hun hret
  walk_at "r in"
  k_steps
  all_goals refine hret _ _ _ _ ⟨_, intEq ?_, rfl⟩ (by k_asm) (by k_asm) (by assumption)
  all_goals rfl
set_option maxHeartbeats 8000000 in
theorem sample_con (w : World) (mean : ExcName → Option Value) (mg mb : Str → Option Value) (e d : Addr) (T : ET) (mt m8 s4 ms : Int) (v : Int) (tv : Tok) (hed : e ≠ d) (hv0 : 0 ≤ v) (hv1 : v < 4294967296) :
   Con w mean mg mb 133 1 [.ref e, .int v tv] (estL w e d T mt m8 s4 ms)
     (fun r news' => ∃ T' m8' s4' ms', r = .none ∧ news' = estL w e d T' mt m8' s4' ms') := by
  obtain ⟨k1, k2, k3, k4, k5, k6, t1, t2, t3, t4, t5, t6⟩ := T
  unfold Con
  k_fill
  w_top off
  intro dp un gd cn cs x ccd cl outer A₀ base h₀ L m s rest Q E B F X N NR off T hk hdp hun hret
  dsimp only [estL, estD] at N
  walk_at "r in"
  k_steps
  all_goals walk_at "r ret"
  all_goals exact ⟨⟨_, _, _, _, _, _, _, _, _, _, _, _⟩, _, _, _, rfl, rfl⟩
noncomputable def atMost (a b r : Int) : Bool := decide (a = b) || (decide (0 < (b - a).fmod r) && decide (2 * (b - a).fmod r < r))
set_option maxHeartbeats 8000000 in
theorem distance_con (w : World) (mean : ExcName → Option Value) (mg mb : Str → Option Value) (a b r : Int) (ta tb tr : Tok) (hr : 0 < r) :
   Con w mean mg mb 21 1 [.int a ta, .int b tb, .int r tr] [] (fun v news' => ∃ t, v = .int ((b - a).fmod r) t ∧ news' = []) := by
  unfold Con
  k_fill
  w_top off
  intro dp un gd cn cs x ccd cl outer A₀ base h₀ L m s rest Q E B F X N NR off T hk hdp hun hret
  walk_at "r in"
  k_steps
  all_goals (walk_at "r ret"; exact ⟨_, rfl, rfl⟩)
theorem lines87 : True := by
  k_with "call ref" => (k_here; (with_reducible show wpAny _ _ (call (Value.ref 21) _) _ _ _); k_dflt (refine' con_1 (distance_con _ _ _ _ _ _ _ _ _ _ _) ?Sw9 ?_; walk_at "r s"; walk_at "r c"); walk_at "r p1")
  trivial
set_option maxHeartbeats 8000000 in
theorem before_con (w : World) (mean : ExcName → Option Value) (mg mb : Str → Option Value) (a b r : Int) (ta tb tr : Tok) (hr : 0 < r) (hr2 : r ≤ 4294967296) :
   Con w mean mg mb 28 2 [.int a ta, .int b tb, .int r tr] [] (fun v news' => v = .bool (decide (0 < (b - a).fmod r) && decide (2 * (b - a).fmod r < r)) ∧ news' = []) := by
  unfold Con
  k_fill
  w_top off
  intro dp un gd cn cs x ccd cl outer A₀ base h₀ L m s rest Q E B F X N NR off T hk hdp hun hret
  have hf := fmodIn (x := b - a) hr
  walk_at "r in"
  k_steps
  all_goals (walk_at "r ret"; refine ⟨congrArg Value.bool ?_, rfl⟩)
  · rw [decide_eq_true (show 0 < (b - a).fmod r by assumption)]; rfl
  · rw [decide_eq_false (show ¬ 0 < (b - a).fmod r by assumption)]; rfl
theorem lines88 : True := by
  k_with "call ref" => (k_here; (with_reducible show wpAny _ _ (call (Value.ref 28) _) _ _ _); k_dflt (refine' con_0 (before_con _ _ _ _ _ _ _ _ _ _ _ _) ?Sw9 ?_; walk_at "r s"; iterate 2 (walk_at "r c")); walk_at "r p0")
  trivial
set_option maxHeartbeats 8000000 in
theorem atMost_con (w : World) (mean : ExcName → Option Value) (mg mb : Str → Option Value) (a b r : Int) (ta tb tr : Tok) (hr : 0 < r) (hr2 : r ≤ 4294967296) :
   Con w mean mg mb 35 3 [.int a ta, .int b tb, .int r tr] [] (fun v news' => v = .bool (atMost a b r) ∧ news' = []) := by
  unfold Con
  k_fill
  w_top off
  intro dp un gd cn cs x ccd cl outer A₀ base h₀ L m s rest Q E B F X N NR off T hk hdp hun hret
  walk_at "r in"
  k_steps
  all_goals (walk_at "r ret"; refine ⟨congrArg Value.bool ?_, rfl⟩)
  · unfold atMost; rw [decide_eq_true (show a = b by assumption), show a = b by assumption]; simp
  · unfold atMost; rw [decide_eq_false (show ¬ a = b by assumption)]; rfl
inductive IsOpt : Value → Option Int → Prop
  | none : IsOpt .none none
  | some {x : Int} {t : Tok} : IsOpt (.int x t) (some x)
theorem con_5 {w : World} {mean : ExcName → Option Value} {mg mb : Str → Option Value} {f : Addr} {d : Nat} {vs : List Value} {news led rest : Led}
    {dp un : Nat} {gd : Option (List Code)} {cn : Str} {cs : Scope} {a : Addr} {ccd : Value} {cl : List (Str × Addr)} {outer : List Env} {A₀ : Around} {base h₀ : Heap} {L : Addr} {m : Str → Option Value} {s : Shared} {Q E : Value → Shared → Prop} {c dd e : Addr} {my B D : Int} {A : Option Int} {V : Value}
    (C : Con w mean mg mb f d vs news (fun v news' => ∃ T' te' oe' tr' ta', IsOpt te' oe' ∧ news' = clkL w c dd T' e my tr' te' ta' ∧ v = V ∧ A = oe' ∧ B = tr' ∧ D = ta')) (S : Side w mean mg mb d news led rest dp un cs outer A₀ base h₀ L m s.heap)
    (ret : ∀ (T' : CT) (te' : Value) (h' : Heap) (tk' : Nat), IsOpt te' A → Fr h₀ L h' m → News h₀ L h' ((c, instObj 108 dd) :: (dd, clkD w T' e my B te' D) :: rest) → Q V { s with heap := h', toks := tk' }) :
    wpAny (model PySem.Challenge.rw_nu0123_01.row.prog w) (ktrTop dp un gd cn cs L a ccd cl outer) (call (.ref f) vs) Q E s :=
  con_x C S (fun v n h tk hp F N => by
    obtain ⟨T, te, oe, tr, ta, io, rfl, rfl, rfl, rfl, rfl⟩ := hp
    exact ret T te h tk io F N)
theorem lines89 : True := by
  k_with "r clk" => (walk_at "r ret"; refine' ⟨⟨_, _, _, _, _, _, _, _⟩, _, _, _, _, ?ow9, rfl, ?_⟩; (case ow9 => first | assumption | exact IsOpt.none | exact IsOpt.some))
  trivial
set_option maxHeartbeats 8000000 in
theorem sent_con (w : World) (mean : ExcName → Option Value) (mg mb : Str → Option Value) (c d : Addr) (T : CT) (e : Addr) (my tr : Int) (te : Value) (oe : Option Int) (ta : Int) (se now : Int) (ts tn : Tok) (hcd : c ≠ d) (ho : IsOpt te oe)  :
   Con w mean mg mb 63 1 [.ref c, .int se ts, .int now tn] (clkL w c d T e my tr te ta)
     (fun v news' => ∃ T' te' oe' tr' ta', IsOpt te' oe' ∧ news' = clkL w c d T' e my tr' te' ta' ∧ v = .none ∧ (if oe = none ∧ tr = 0 then some se else oe) = oe' ∧ tr = tr' ∧ (if oe = none ∧ tr = 0 then now else ta) = ta') := by
  obtain ⟨k1, k2, k3, k4, k5, t2, t3, t5⟩ := T
  unfold Con
  k_fill
  w_top off
  cases ho
  all_goals (
    intro dp un gd cn cs x ccd cl outer A₀ base h₀ L m s rest Q E B F X N NR off T hk hdp hun hret
    dsimp only [clkL, clkD] at N
    walk_at "r in"
    k_steps
    all_goals walk_at "r clk")
  all_goals simp_all only [and_self, and_true, true_and, and_false, false_and, if_true, if_false, reduceCtorEq, ne_eq, not_false_eq_true]
set_option maxHeartbeats 8000000 in
theorem forget_con (w : World) (mean : ExcName → Option Value) (mg mb : Str → Option Value) (c d : Addr) (T : CT) (e : Addr) (my tr : Int) (te : Value) (oe : Option Int) (ta : Int)  (hcd : c ≠ d) (ho : IsOpt te oe)  :
   Con w mean mg mb 70 1 [.ref c] (clkL w c d T e my tr te ta)
     (fun v news' => ∃ T' te' oe' tr' ta', IsOpt te' oe' ∧ news' = clkL w c d T' e my tr' te' ta' ∧ v = .none ∧ none = oe' ∧ tr = tr' ∧ ta = ta') := by
  obtain ⟨k1, k2, k3, k4, k5, t2, t3, t5⟩ := T
  unfold Con
  k_fill
  w_top off
  intro dp un gd cn cs x ccd cl outer A₀ base h₀ L m s rest Q E B F X N NR off T hk hdp hun hret
  dsimp only [clkL, clkD] at N
  walk_at "r in"
  k_steps
  all_goals walk_at "r clk"
  all_goals exact ⟨rfl, rfl, rfl, rfl⟩
set_option maxHeartbeats 8000000 in
theorem back_con (w : World) (mean : ExcName → Option Value) (mg mb : Str → Option Value) (c d : Addr) (T : CT) (e : Addr) (my tr : Int) (te : Value) (oe : Option Int) (ta : Int)  (hcd : c ≠ d) (ho : IsOpt te oe)  :
   Con w mean mg mb 84 1 [.ref c] (clkL w c d T e my tr te ta)
     (fun v news' => ∃ T' te' oe' tr' ta', IsOpt te' oe' ∧ news' = clkL w c d T' e my tr' te' ta' ∧ v = .bool (decide (tr + 1 ≤ my)) ∧ none = oe' ∧ tr + 1 = tr' ∧ ta = ta') := by
  obtain ⟨k1, k2, k3, k4, k5, t2, t3, t5⟩ := T
  unfold Con
  k_fill
  w_top off
  intro dp un gd cn cs x ccd cl outer A₀ base h₀ L m s rest Q E B F X N NR off T hk hdp hun hret
  dsimp only [clkL, clkD] at N
  walk_at "r in"
  k_steps
  all_goals walk_at "r clk"
  all_goals exact ⟨rfl, rfl, rfl, rfl⟩
set_option maxHeartbeats 8000000 in
theorem reset_con (w : World) (mean : ExcName → Option Value) (mg mb : Str → Option Value) (c d : Addr) (T : CT) (e : Addr) (my tr : Int) (te : Value) (oe : Option Int) (ta : Int)  (hcd : c ≠ d) (ho : IsOpt te oe)  :
   Con w mean mg mb 91 1 [.ref c] (clkL w c d T e my tr te ta)
     (fun v news' => ∃ T' te' oe' tr' ta', IsOpt te' oe' ∧ news' = clkL w c d T' e my tr' te' ta' ∧ v = .none ∧ oe = oe' ∧ 0 = tr' ∧ ta = ta') := by
  obtain ⟨k1, k2, k3, k4, k5, t2, t3, t5⟩ := T
  unfold Con
  k_fill
  w_top off
  intro dp un gd cn cs x ccd cl outer A₀ base h₀ L m s rest Q E B F X N NR off T hk hdp hun hret
  dsimp only [clkL, clkD] at N
  walk_at "r in"
  k_steps
  all_goals walk_at "r clk"
  all_goals exact ⟨rfl, rfl, rfl, rfl⟩
set_option maxHeartbeats 8000000 in
theorem timing_con (w : World) (mean : ExcName → Option Value) (mg mb : Str → Option Value) (c d : Addr) (T : CT) (e : Addr) (my tr : Int) (te : Value) (oe : Option Int) (ta : Int)  (hcd : c ≠ d) (ho : IsOpt te oe)  :
   Con w mean mg mb 56 1 [.ref c] (clkL w c d T e my tr te ta)
     (fun v news' => ∃ T' te' oe' tr' ta', IsOpt te' oe' ∧ news' = clkL w c d T' e my tr' te' ta' ∧ v = .bool oe.isSome ∧ oe = oe' ∧ tr = tr' ∧ ta = ta') := by
  obtain ⟨k1, k2, k3, k4, k5, t2, t3, t5⟩ := T
  unfold Con
  k_fill
  w_top off
  intro dp un gd cn cs x ccd cl outer A₀ base h₀ L m s rest Q E B F X N NR off T hk hdp hun hret
  dsimp only [clkL, clkD] at N
  walk_at "r in"
  k_steps
  cases ho
  all_goals k_steps
  all_goals walk_at "r clk"
  all_goals exact ⟨rfl, rfl, rfl, rfl⟩
theorem lines90 : True := by
  k_with "call ref" => (k_here; (with_reducible show wpAny _ _ (call (Value.ref 35) _) _ _ _); k_dflt (refine' con_0 (atMost_con _ _ _ _ _ _ _ _ _ _ _ _) ?Sw9 ?_; walk_at "r s"; iterate 2 (walk_at "r c")); walk_at "r p0")
  k_with "call ref" => (k_here; (with_reducible show wpAny _ _ (call (Value.ref 133) _) _ _ _); k_dflt (refine' con_x (sample_con _ _ _ _ _ _ _ _ _ _ _ _ _ _ _ _) ?Sw9 ?_; walk_at "r s"; iterate 3 (walk_at "r c")); intro v9 n9 h9 tk9 p9 F9 N9; obtain ⟨T9, m9, s9, u9, e9, f9⟩ := p9; subst e9; subst f9; walk_at "r fin")
  k_with "call ref" => (k_here; (with_reducible show wpAny _ _ (call (Value.ref 154) _) _ _ _); k_dflt (refine' con_1 (timeout_con _ _ _ _ _ _ _ _ _ _ _) ?Sw9 ?_; walk_at "r s"); walk_at "r p1")
  trivial
noncomputable def AckPost (oe : Option Int) (ack ring now ta : Int) (v : Value) (oe' : Option Int) : Prop :=
  match oe with
  | none => v = .none ∧ oe' = none
  | some x => if atMost x ack ring = true then (∃ t, v = .int (now - ta) t) ∧ oe' = none else v = .none ∧ oe' = some x
theorem lines91 : True := by
  k_with "r ack" => (with_reducible rename ∀ (v : Value) (news' : Led) (h' : Heap) (tk' : Nat), _ → Fr _ _ _ _ → News _ _ _ _ → Kept _ _ _ _ → _ => hret9; with_reducible rename News _ _ _ _ => kk9; refine' hret9 _ _ _ _ ⟨⟨_, _, _, _, _, _, _, _⟩, _, _, _, _, _, _, ?ow9, rfl, ?_⟩ ?fw9 ?nw9 ?kw9; (case fw9 => k_asm); (case nw9 => refine' Pulls.news kk9 ?Pw9; (case Pw9 => walk_at "r pulls")); (case kw9 => k_asm); (case ow9 => first | exact IsOpt.none | exact IsOpt.some))
  trivial
set_option maxHeartbeats 8000000 in
theorem acked_con (w : World) (mean : ExcName → Option Value) (mg mb : Str → Option Value) (c d : Addr) (T : CT) (e ed : Addr) (my tr : Int) (te : Value) (oe : Option Int) (ta : Int) (TE : ET) (mt m8 s4 ms : Int) (ack now ring : Int) (tk1 tk2 tk3 : Tok)
   (ho : IsOpt te oe) (hcd : @Ne Nat c d) (hee : @Ne Nat e ed) (hce : @Ne Nat c e) (hced : @Ne Nat c ed) (hde : @Ne Nat d e) (hded : @Ne Nat d ed) (hr : 0 < ring) (hr2 : ring ≤ 4294967296) (hn0 : 0 ≤ now - ta) (hn1 : now - ta < 4294967296) :
   Con w mean mg mb 77 4 [.ref c, .int ack tk1, .int now tk2, .int ring tk3] (bothL w c d T e ed my tr te ta TE mt m8 s4 ms)
     (fun v news' => ∃ T' te' oe' TE' m8' s4' ms', IsOpt te' oe' ∧ news' = bothL w c d T' e ed my 0 te' ta TE' mt m8' s4' ms' ∧
       AckPost oe ack ring now ta v oe') := by
  obtain ⟨k1, k2, k3, k4, k5, t2, t3, t5⟩ := T
  unfold Con
  k_fill
  w_top off
  cases ho
  · intro dp un gd cn cs x ccd cl outer A₀ base h₀ L m s rest Q E B F X N NR off T hk hdp hun hret
    dsimp only [bothL, clkD] at N
    dsimp only [bothL] at off
    walk_at "r in"
    k_steps
    all_goals walk_at "r ack"
    all_goals exact ⟨rfl, rfl⟩
  · intro dp un gd cn cs x ccd cl outer A₀ base h₀ L m s rest Q E B F X N NR off T hk hdp hun hret
    dsimp only [bothL, clkD] at N
    dsimp only [bothL] at off
    walk_at "r in"
    k_steps
    all_goals walk_at "r ack"
    · unfold AckPost; dsimp only; rw [if_pos (by assumption)]; exact ⟨⟨_, rfl⟩, rfl⟩
    · unfold AckPost; dsimp only; rw [if_neg (by rw [Bool.not_eq_true]; assumption)]; exact ⟨rfl, rfl⟩
theorem con_a {w : World} {mean : ExcName → Option Value} {mg mb : Str → Option Value} {f : Addr} {d : Nat} {vs : List Value} {news led rest : Led}
    {dp un : Nat} {gd : Option (List Code)} {cn : Str} {cs : Scope} {a : Addr} {ccd : Value} {cl : List (Str × Addr)} {outer : List Env} {A₀ : Around} {base h₀ : Heap} {L : Addr} {m : Str → Option Value} {s : Shared} {Q E : Value → Shared → Prop} {c dd e ed : Addr} {my tta mt : Int} {P : Value → Option Int → Prop}
    (C : Con w mean mg mb f d vs news (fun v news' => ∃ T' te' oe' TE' m8' s4' ms', IsOpt te' oe' ∧ news' = bothL w c dd T' e ed my 0 te' tta TE' mt m8' s4' ms' ∧ P v oe')) (S : Side w mean mg mb d news led rest dp un cs outer A₀ base h₀ L m s.heap)
    (ret : ∀ (v : Value) (T' : CT) (te' : Value) (oe' : Option Int) (TE' : ET) (m8' s4' ms' : Int) (h' : Heap) (tk' : Nat), IsOpt te' oe' → P v oe' → Fr h₀ L h' m →
      News h₀ L h' ((c, instObj 108 dd) :: (dd, clkD w T' e my 0 te' tta) :: (e, instObj 164 ed) :: (ed, estD w TE' mt m8' s4' ms') :: rest) → Q v { s with heap := h', toks := tk' }) :
    wpAny (model PySem.Challenge.rw_nu0123_01.row.prog w) (ktrTop dp un gd cn cs L a ccd cl outer) (call (.ref f) vs) Q E s :=
  con_x C S (fun v n h tk hp F N => by
    obtain ⟨T, te, oe, TE, m8, s4, ms, io, rfl, p⟩ := hp
    exact ret v T te oe TE m8 s4 ms h tk io p F N)
theorem bnd_in {mt t : Int} (h : 2 ≤ mt) : 2 ≤ bnd mt t ∧ bnd mt t ≤ mt := by
  unfold bnd; (repeat' split) <;> omega
theorem tmo_in {mt m8 s4 ms : Int} (h : 2 ≤ mt) : 2 ≤ tmo mt m8 s4 ms ∧ tmo mt m8 s4 ms ≤ mt := bnd_in h
theorem dbl_fold : ∀ (l : List Int) (t : Int), (l.foldl (fun σ (_ : Int) => (2 * σ.1, ())) (t, ())).1 = t * 2 ^ l.length
  | [], t => by simp
  | _ :: r, t => by
    rw [List.foldl_cons, dbl_fold r, List.length_cons, Int.pow_succ, Int.mul_comm 2 t, Int.mul_assoc, Int.mul_comm 2]
theorem lines92 : True := by
  k_with "r val" => (with_reducible rename ∀ (v : Value) (news' : Led) (h' : Heap) (tk' : Nat), _ → Fr _ _ _ _ → News _ _ _ _ → Kept _ _ _ _ → _ => hret9; with_reducible rename News _ _ _ _ => kk9; refine' hret9 _ _ _ _ ⟨_, intEq ?_, rfl⟩ ?fw9 ?nw9 ?kw9; (case fw9 => k_asm); (case nw9 => refine' Pulls.news kk9 ?Pw9; (case Pw9 => walk_at "r pulls")); (case kw9 => k_asm))
  trivial
theorem two_pow {i : Nat} (hi : i ≤ 7) : (0 : Int) < 2 ^ i ∧ (2 : Int) ^ i ≤ 128 := by
  refine ⟨Int.pow_pos (by decide), ?_⟩
  have h : 2 ^ i ≤ 128 := Nat.pow_le_pow_right (show 0 < 2 by decide) hi
  have h2 : ((2 ^ i : Nat) : Int) ≤ 128 := Int.ofNat_le.mpr h
  rwa [Int.natCast_pow] at h2
theorem pow_in {a mt : Int} {i : Nat} (h0 : 2 ≤ a) (h1 : a ≤ mt) (hi : i ≤ 7) (hm : mt ≤ 100000) : 0 ≤ a * 2 ^ i ∧ a * 2 ^ i ≤ 12800000 :=
  have p := two_pow hi
  ⟨Int.mul_nonneg (Int.le_trans (by decide) h0) (Int.le_of_lt p.1),
   Int.le_trans (Int.mul_le_mul_of_nonneg_right (Int.le_trans h1 hm) (Int.le_of_lt p.1)) (Int.mul_le_mul_of_nonneg_left p.2 (show (0 : Int) ≤ 100000 by decide))⟩
theorem set2 {m : Str → Option Value} {n1 n2 : Str} {v1 v2 : Value} (h1 : m n1 = some v1) (h2 : m n2 = some v2) : m = fun z => if z = n1 then some v1 else if z = n2 then some v2 else m z := by
  funext z
  by_cases e : z = n1
  · rw [e, h1, if_pos rfl]
  · rw [if_neg e]
    by_cases e2 : z = n2
    · rw [e2, h2, if_pos rfl]
    · rw [if_neg e2]
section
local macro_rules | `(tactic| walk_at "pyIter ref") => `(tactic| (k_here; refine stop_here ?_))
set_option maxHeartbeats 8000000 in
theorem waited_con (w : World) (mean : ExcName → Option Value) (mg mb : Str → Option Value) (c d : Addr) (T : CT) (e ed : Addr) (my tr : Int) (te : Value) (ta : Int) (TE : ET) (mt m8 s4 ms : Int)
   (hce : @Ne Nat c e) (hced : @Ne Nat c ed) (hde : @Ne Nat d e) (hded : @Ne Nat d ed) (hm0 : 9 ≤ mt) (hm1 : mt ≤ 100000) (htr : 0 ≤ tr) (htr2 : tr ≤ 1000) :
   Con w mean mg mb 98 4 [.ref c] (bothL w c d T e ed my tr te ta TE mt m8 s4 ms)
     (fun v news' => ∃ t, v = .int (bnd mt (tmo mt m8 s4 ms * 2 ^ (min tr 7).toNat)) t ∧ news' = bothL w c d T e ed my tr te ta TE mt m8 s4 ms) := by
  unfold Con
  k_fill
  w_top off
  intro dp un gd cn cs x ccd cl outer A₀ base h₀ L m s rest Q E B F X N NR off TT hk hdp hun hret
  dsimp only [bothL] at N off
  have hb := tmo_in (mt := mt) (m8 := m8) (s4 := s4) (ms := ms) (by omega)
  walk_at "r in"
  k_steps
  all_goals refine stop_on ?_
  all_goals with_reducible rename IsRange _ _ _ _ _ _ _ _ => R1
  all_goals with_reducible rename News _ _ _ _ => N1
  all_goals with_reducible rename Fr _ _ _ _ => F1
  all_goals (have N2 : News _ _ _ [(c, instObj 108 d), (d, clkD w T e my tr te ta), (e, instObj 164 ed), (ed, estD w TE mt m8 s4 ms)] := Pulls.news N1 (by walk_at "r pulls"))
  all_goals clear N1
  · refine range_iter (n := 7) (fun i m₁ news₁ => ∃ (t : Tok) (u : Str → Option Value), m₁ = (fun z => if z = Str.ofString "ticks" then some (.int (tmo mt m8 s4 ms * 2 ^ i) t) else if z = Str.ofString "self" then some (.ref c) else u z) ∧ news₁ = [(c, instObj 108 d), (d, clkD w T e my tr te ta), (e, instObj 164 ed), (ed, estD w TE mt m8 s4 ms)]) rfl rfl R1 rfl rfl F1 N2 ⟨_, _, set2 (by show some (Value.int (tmo mt m8 s4 ms) _) = _; rw [Int.pow_zero, Int.mul_one]) rfl, rfl⟩ ?turn ?done
    case turn =>
      intro i tj h9 tk9 own9 m9 news9 hi hj off9 F9 N9 Q9 hn
      obtain ⟨t9, u9, e1, e2⟩ := hj
      subst e1 e2
      have hX := pow_in (i := i) hb.1 hb.2 (by omega) hm1
      generalize hx : tmo mt m8 s4 ms * 2 ^ i = X9 at F9 hX
      clear F1 N2
      k_steps
      with_reducible rename News _ _ _ _ => N8
      with_reducible rename Fr _ _ _ _ => F8
      exact hn _ _ _ _ F8 N8 off9 ⟨_, _, set2 (by show some (Value.int (2 * X9) _) = _; rw [← hx, Int.pow_succ, Int.mul_comm, Int.mul_assoc]) rfl, rfl⟩
    case done =>
      intro h9 tk9 m9 news9 F9 N9 hj
      obtain ⟨t9, u9, e1, e2⟩ := hj
      subst e1 e2
      clear F1 N2
      k_steps
      walk_at "r val"
      rw [show min tr 7 = 7 by omega]
      rfl
  · refine range_iter (n := (tr - 0).toNat) (fun i m₁ news₁ => ∃ (t : Tok) (u : Str → Option Value), m₁ = (fun z => if z = Str.ofString "ticks" then some (.int (tmo mt m8 s4 ms * 2 ^ i) t) else if z = Str.ofString "self" then some (.ref c) else u z) ∧ news₁ = [(c, instObj 108 d), (d, clkD w T e my tr te ta), (e, instObj 164 ed), (ed, estD w TE mt m8 s4 ms)]) rfl rfl R1 (small_one (by omega) (by omega) (by omega) (by omega)) (rangeSize_nat 0 _) F1 N2 ⟨_, _, set2 (by show some (Value.int (tmo mt m8 s4 ms) _) = _; rw [Int.pow_zero, Int.mul_one]) rfl, rfl⟩ ?turn ?done
    case turn =>
      intro i tj h9 tk9 own9 m9 news9 hi hj off9 F9 N9 Q9 hn
      obtain ⟨t9, u9, e1, e2⟩ := hj
      subst e1 e2
      have hX := pow_in (i := i) hb.1 hb.2 (by omega) hm1
      generalize hx : tmo mt m8 s4 ms * 2 ^ i = X9 at F9 hX
      clear F1 N2
      k_steps
      with_reducible rename News _ _ _ _ => N8
      with_reducible rename Fr _ _ _ _ => F8
      exact hn _ _ _ _ F8 N8 off9 ⟨_, _, set2 (by show some (Value.int (2 * X9) _) = _; rw [← hx, Int.pow_succ, Int.mul_comm, Int.mul_assoc]) rfl, rfl⟩
    case done =>
      intro h9 tk9 m9 news9 F9 N9 hj
      obtain ⟨t9, u9, e1, e2⟩ := hj
      subst e1 e2
      clear F1 N2
      k_steps
      walk_at "r val"
      rw [show min tr 7 = tr by omega, Int.sub_zero]
end
theorem lines93 : True := by
  k_with "call ref" => (k_here; (with_reducible show wpAny _ _ (call (Value.ref 98) _) _ _ _); k_dflt (refine' con_1 (waited_con _ _ _ _ _ _ _ _ _ _ _ _ _ _ _ _ _ _ _ _ _ _ _ _ _ _) ?Sw9 ?_; walk_at "r s"; iterate 8 (walk_at "r c")); walk_at "r p1")
  trivial
noncomputable def waitV (mt m8 s4 ms tr : Int) : Int := min (tmo mt m8 s4 ms * 2 ^ (min tr 7).toNat) mt
theorem wait_eq {mt m8 s4 ms tr : Int} (h : 2 ≤ mt) : bnd mt (tmo mt m8 s4 ms * 2 ^ (min tr 7).toNat) = waitV mt m8 s4 ms tr := by
  have hb := tmo_in (m8 := m8) (s4 := s4) (ms := ms) h
  have hp : (0 : Int) < 2 ^ (min tr 7).toNat := Int.pow_pos (by decide)
  have hm : tmo mt m8 s4 ms * 1 ≤ tmo mt m8 s4 ms * 2 ^ (min tr 7).toNat := Int.mul_le_mul_of_nonneg_left (by omega) (by omega)
  unfold waitV bnd
  generalize tmo mt m8 s4 ms * 2 ^ (min tr 7).toNat = y at hm
  (repeat' split) <;> omega
theorem waitW_con (w : World) (mean : ExcName → Option Value) (mg mb : Str → Option Value) (c d : Addr) (T : CT) (e ed : Addr) (my tr : Int) (te : Value) (ta : Int) (TE : ET) (mt m8 s4 ms : Int)
   (hce : @Ne Nat c e) (hced : @Ne Nat c ed) (hde : @Ne Nat d e) (hded : @Ne Nat d ed) (hm0 : 9 ≤ mt) (hm1 : mt ≤ 100000) (htr : 0 ≤ tr) (htr2 : tr ≤ 1000) :
   Con w mean mg mb 98 4 [.ref c] (bothL w c d T e ed my tr te ta TE mt m8 s4 ms)
     (fun v news' => ∃ t, v = .int (waitV mt m8 s4 ms tr) t ∧ news' = bothL w c d T e ed my tr te ta TE mt m8 s4 ms) := by
  have h := waited_con w mean mg mb c d T e ed my tr te ta TE mt m8 s4 ms hce hced hde hded hm0 hm1 htr htr2
  rw [wait_eq (by omega)] at h
  exact h
theorem lwait_end {mt F X : Int} (e : F = X) : (if mt < F then mt else F) = min X mt := by
  subst e; split <;> omega
set_option maxHeartbeats 8000000 in
theorem deadline_con (w : World) (mean : ExcName → Option Value) (mg mb : Str → Option Value) (c d : Addr) (T : CT) (e ed : Addr) (my tr : Int) (te : Value) (ta : Int) (TE : ET) (mt m8 s4 ms : Int) (now : Int) (tn : Tok)
   (hce : @Ne Nat c e) (hced : @Ne Nat c ed) (hde : @Ne Nat d e) (hded : @Ne Nat d ed) (hm0 : 9 ≤ mt) (hm1 : mt ≤ 100000) (htr : 0 ≤ tr) (htr2 : tr ≤ 1000) :
   Con w mean mg mb 105 5 [.ref c, .int now tn] (bothL w c d T e ed my tr te ta TE mt m8 s4 ms)
     (fun v news' => ∃ t, v = .int (now + waitV mt m8 s4 ms tr) t ∧ news' = bothL w c d T e ed my tr te ta TE mt m8 s4 ms) := by
  unfold Con
  k_fill
  w_top off
  intro dp un gd cn cs x ccd cl outer A₀ base h₀ L m s rest Q E B F X N NR off T hk hdp hun hret
  dsimp only [bothL] at N off
  walk_at "r in"
  k_steps
  all_goals walk_at "r val"
  · rw [wait_eq (by omega)]
set_option maxHeartbeats 8000000 in
theorem lwait_con (w : World) (mean : ExcName → Option Value) (mg mb : Str → Option Value) (e ed : Addr) (TE : ET) (mt m8 s4 ms : Int) (tr : Int) (t1 t2 : Tok)
   (hee : @Ne Nat e ed) (hm0 : 9 ≤ mt) (hm1 : mt ≤ 100000) (htr : 0 ≤ tr) (htr2 : tr ≤ 1000) :
   Con w mean mg mb 196 4 [.ref e, .int tr t1, .int mt t2] (estL w e ed TE mt m8 s4 ms)
     (fun v news' => ∃ t, v = .int (waitV mt m8 s4 ms tr) t ∧ news' = estL w e ed TE mt m8 s4 ms) := by
  unfold Con
  k_fill
  w_top off
  intro dp un gd cn cs x ccd cl outer A₀ base h₀ L m s rest Q E B F X N NR off T hk hdp hun hret
  dsimp only [estL] at N off
  have hb := tmo_in (mt := mt) (m8 := m8) (s4 := s4) (ms := ms) (by omega)
  walk_at "r in"
  k_steps
  all_goals walk_at "r val"
  · refine lwait_end ?_
    refine (dbl_fold (rangeInts 0 1 ((if 7 < tr then 7 else tr) - 0).toNat) (tmo mt m8 s4 ms)).trans ?_
    rw [rangeInts_length, show (if 7 < tr then 7 else tr) - 0 = min tr 7 by split <;> omega]
theorem lines94 : True := by
  k_with "call ref" => (k_here; (with_reducible show wpAny _ _ (call (Value.ref 182) _) _ _ _); k_dflt (refine' con_t (take_con _ _ _ _ _ _ _ _ _ _ _ _ _ _ _ _ _) ?Sw9 ?_; walk_at "r s"; iterate 5 (walk_at "r c")); intro d9 td9 a9 ta9 b9 tb9 c9 h9 tk9 hd9 hd8 ha9 hb9 hb8 F9 N9; walk_at "r fin")
  k_with "call builtin:len" => (k_here; (with_reducible show wpAny _ _ (call (Value.builtin "len") [Value.ref _]) _ _ _); k_dflt (refine' kst_len ?k1w9 ?k2w9 rfl ?k4w9 ?_; (case k1w9 => k_asm); (case k2w9 => k_memK); (case k4w9 => omega); k_whole))
  k_with "subscriptTail Name Call ref int" => (k_here; k_dflt (refine' itemAny ?k1w9 ?k2w9 ?k3w9 ?k4w9 ?k5w9 ?_ ?k6w9; (case k1w9 => k_asm); (case k2w9 => k_mem); (case k3w9 => omega); (case k4w9 => omega); (case k5w9 => omega); (case k6w9 => with_unfolding_all rfl); k_whole; intro v9 hv9))
  trivial
set_option maxHeartbeats 8000000 in
theorem one_con (w : World) (mean : ExcName → Option Value) (mg mb : Str → Option Value) (src th : Addr) (a b : Int) (ta tb n : Nat) (vs : List Value) (n2 : Nat)
   (hst : @Ne Nat src th) (ha : 0 ≤ a) (hb0 : 0 ≤ b) (hb1 : b < 2147483647) (ht : 0 < vs.length) (ht2 : vs.length < 4096) :
   Con w mean mg mb 189 2 [.ref src, .ref th] [(src, listOf #[.int a ta, .int b tb] n), (th, listOf vs.toArray n2)]
     (fun v news' => v ∈ vs ∧ ∃ a' ta' b' tb' n', 0 ≤ a' ∧ 0 ≤ b' ∧ b' < 2147483647 ∧ news' = [(src, listOf #[.int a' ta', .int b' tb'] n'), (th, listOf vs.toArray n2)]) := by
  unfold Con
  k_fill
  w_top off
  intro dp un gd cn cs x ccd cl outer A₀ base h₀ L m s rest Q E B F X N NR off T hk hdp hun hret
  walk_at "r in"
  k_steps
  all_goals (walk_at "r ret"; exact ⟨List.mem_of_getElem? (by assumption), _, _, _, _, _, by assumption, by assumption, by assumption, rfl⟩)
theorem lines95 : True := by
  k_with "compareOp NotEq ref ref" => (k_here; k_dflt (refine' neNil ?k1w9 ?k2w9 ?k3w9 ?k4w9 ?_; (case k1w9 => k_asm); (case k2w9 => k_mem); (case k3w9 => k_mem); (case k4w9 => ktr_units); k_whole))
  k_with "call ref" => (k_here; (with_reducible show wpAny _ _ (call (Value.ref 189) _) _ _ _); k_dflt (refine' con_o (one_con _ _ _ _ _ _ _ _ _ _ _ _ _ _ _ _ _ _ _) ?Sw9 ?_; walk_at "r s"; iterate 6 (walk_at "r c")); intro v9 a9 ta9 b9 tb9 c9 h9 tk9 e9 ha9 hb9 hb8 F9 N9; walk_at "r fin")
  trivial
noncomputable abbrev OwnIs (w : World) (o : Obj) (u : Addr) (nx : Int) (tn : Tok) (tm : Value) (tr : Int) (tt : Tok) : Prop :=
  o.IsDictOf (PySem.strKind PySem.Challenge.rw_nu0123_01.row.prog w) [(Str.ofString "under", .ref u), (Str.ofString "next", .int nx tn), (Str.ofString "timed", tm), (Str.ofString "tries", .int tr tt)]
theorem menu1 {v : Value} {t : Tok} (h : v ∈ [Value.str (Str.ofString "send") t]) : ∃ tv, v = .str (Str.ofString "send") tv := by
  rcases List.mem_singleton.mp h with rfl
  exact ⟨_, rfl⟩
theorem menu5 {v : Value} {t1 t2 t3 t4 t5 : Tok} (h : v ∈ [Value.str (Str.ofString "send") t1, Value.str (Str.ofString "send") t2, Value.str (Str.ofString "ack") t3, Value.str (Str.ofString "late") t4, Value.str (Str.ofString "again") t5]) :
    ∃ ev tv, v = .str (Str.ofString ev) tv ∧ (ev = "send" ∨ ev = "ack" ∨ ev = "late" ∨ ev = "again") := by
  simp only [List.mem_cons, List.not_mem_nil, or_false] at h
  rcases h with rfl | rfl | rfl | rfl | rfl
  · exact ⟨_, _, rfl, .inl rfl⟩
  · exact ⟨_, _, rfl, .inl rfl⟩
  · exact ⟨_, _, rfl, .inr (.inl rfl)⟩
  · exact ⟨_, _, rfl, .inr (.inr (.inl rfl))⟩
  · exact ⟨_, _, rfl, .inr (.inr (.inr rfl))⟩
set_option maxHeartbeats 8000000 in
theorem event_con (w : World) (mean : ExcName → Option Value) (mg mb : Str → Option Value) (src own u : Addr) (a b : Int) (ta tb n : Nat) (o : Obj) (nx : Int) (tn : Tok) (tm : Value) (tr : Int) (tt : Tok) (us : List Value) (n2 : Nat)
   (ho : OwnIs w o u nx tn tm tr tt) (h1 : @Ne Nat src own) (h2 : @Ne Nat src u) (h3 : @Ne Nat own u) (ha : 0 ≤ a) (hb0 : 0 ≤ b) (hb1 : b < 2147483647) :
   Con w mean mg mb 203 3 [.ref src, .ref own] [(src, listOf #[.int a ta, .int b tb] n), (own, o), (u, listOf us.toArray n2)]
     (fun v news' => ∃ ev tv a' ta' b' tb' n', v = .str (Str.ofString ev) tv ∧ (ev = "send" ∨ (us ≠ [] ∧ (ev = "ack" ∨ ev = "late" ∨ ev = "again"))) ∧ 0 ≤ a' ∧ 0 ≤ b' ∧ b' < 2147483647 ∧ news' = [(src, listOf #[.int a' ta', .int b' tb'] n'), (own, o), (u, listOf us.toArray n2)]) := by
  unfold Con
  k_fill
  w_top off
  intro dp un gd cn cs x ccd cl outer A₀ base h₀ L m s rest Q E B F X N NR off T hk hdp hun hret
  dsimp only [OwnIs] at ho
  walk_at "r in"
  k_steps
  · obtain ⟨tv, e1⟩ := menu1 (by assumption)
    subst e1
    with_reducible rename News _ _ _ _ => kk
    refine' hret _ _ _ _ ⟨_, _, _, _, _, _, _, rfl, .inl rfl, ?a1, ?a2, ?a3, rfl⟩ ?f ?n ?k
    case f => k_asm
    case n => refine' Pulls.news kk ?P; (case P => walk_at "r pulls")
    case k => k_asm
    all_goals assumption
  · obtain ⟨ev, tv, e1, e2⟩ := menu5 (by assumption)
    subst e1
    have hne : us ≠ [] := by rintro rfl; (have hq : ([] : List Value).isEmpty = false := by assumption); exact absurd hq (by decide)
    with_reducible rename News _ _ _ _ => kk
    refine' hret _ _ _ _ ⟨_, _, _, _, _, _, _, rfl, e2.imp id fun q => ⟨hne, q⟩, ?b1, ?b2, ?b3, rfl⟩ ?f2 ?n2 ?k2
    case f2 => k_asm
    case n2 => refine' Pulls.news kk ?P2; (case P2 => walk_at "r pulls")
    case k2 => k_asm
    all_goals assumption
theorem lines96 : True := by
  k_with "call ref" => (k_here; (with_reducible show wpAny _ _ (call (Value.ref 63) _) _ _ _); k_dflt (refine' con_5 (sent_con _ _ _ _ _ _ _ _ _ _ _ _ _ _ _ _ _ _ ?hw9) ?Sw9 ?_; walk_at "r s"; (case hw9 => k_asm); walk_at "r c"); walk_at "r p5")
  trivial
set_option maxHeartbeats 8000000 in
theorem lsent_call (w : World) (mean : ExcName → Option Value) (mg mb : Str → Option Value) (src c d own u : Addr) (a b : Int) (ta tb n : Nat) (T : CT) (e : Addr) (my tr : Int) (te : Value) (oe : Option Int) (tta : Int)
   (o : Obj) (nx : Int) (tn : Tok) (tm : Value) (otm : Option Int) (tt : Tok) (us : List Value) (n2 : Nat) (now ring : Int) (tk1 tk2 : Tok)
   (ho : OwnIs w o u nx tn tm tr tt) (hte : IsOpt te oe) (htm : IsOpt tm otm)
   (h1 : @Ne Nat src c) (h2 : @Ne Nat src d) (h3 : @Ne Nat src own) (h4 : @Ne Nat src u) (h5 : @Ne Nat c d) (h6 : @Ne Nat c own) (h7 : @Ne Nat c u) (h8 : @Ne Nat d own) (h9 : @Ne Nat d u) (h10 : @Ne Nat own u)
   (ha : 0 ≤ a) (hb0 : 0 ≤ b) (hb1 : b < 2147483647) (hr : 0 < ring) (hus : us.length ≤ 100)
   (dp un : Nat) (gd : Option (List Code)) (cn : Str) (cs : Scope) (x : Addr) (ccd : Value) (cl : List (Str × Addr)) (outer : List Env) (A₀ : Around) (base h₀ : Heap) (L : Addr) (m : Str → Option Value) (s : Shared) (rest : Led) (Q E : Value → Shared → Prop)
   (B : Below A₀ base outer h₀) (F : Fr h₀ L s.heap m) (X : (hd.heap_39 w.params).In h₀)
   (N : News h₀ L s.heap [(src, listOf #[.int a ta, .int b tb] n), (c, instObj 108 d), (d, clkD w T e my tr te tta), (own, o), (u, listOf us.toArray n2)]) (NR : Kept h₀ L s.heap rest) (off : OwnOff rest [src, c, d, own, u])
   (TT : Top hd.view_39 (looseW hd.view_39 []) mean mg mb h₀) (hk : cs.kind = .function) (hdp : dp + 2 < recursionLimit) (hun : un + 8 * 2 < cLine)
   (hret : ∀ (a' : Int) (ta' : Tok) (b' : Int) (tb' : Tok) (n' : Nat) (T' : CT) (te' : Value) (o' : Obj) (nx' : Int) (tn' : Tok) (tm' : Value) (tt' : Tok) (n2' : Nat) (l : Addr) (t1 t2 : Tok) (n3 : Nat) (h' : Heap) (tk' : Nat),
      0 ≤ a' → 0 ≤ b' → b' < 2147483647 → nx + 1 ≤ nx' → nx' ≤ nx + 9 → OwnIs w o' u nx' tn' tm' tr tt' → IsOpt tm' (if otm = none ∧ tr = 0 then some nx' else otm) → IsOpt te' (if oe = none ∧ tr = 0 then some (nx'.fmod ring) else oe) →
      @LT.lt Nat _ src l → @LT.lt Nat _ c l → @LT.lt Nat _ d l → @LT.lt Nat _ own l → @LT.lt Nat _ u l → OwnOff rest [l] → Fr h₀ L h' m →
      News h₀ L h' [(src, listOf #[.int a' ta', .int b' tb'] n'), (c, instObj 108 d), (d, clkD w T' e my tr te' (if oe = none ∧ tr = 0 then now else tta)), (own, o'), (u, listOf (us ++ [Value.ref l]).toArray n2'), (l, listOf #[.int nx' t1, .int now t2, .bool false] n3)] →
      Kept h₀ L h' rest → Q .none { s with heap := h', toks := tk' }) :
   wpAny (model PySem.Challenge.rw_nu0123_01.row.prog w) (ktrTop dp un gd cn cs L x ccd cl outer) (call (.ref 210) [.ref src, .ref c, .ref own, .int now tk1, .int ring tk2]) Q E s := by
  revert X
  k_fill
  w_top off
  intro X
  dsimp only [OwnIs] at ho
  refine wpAny_call ?_
  k_dflt (walk_at "r enter")
  intro g' L' h' FG' F' N' B' X' T' S'
  (try dsimp only)
  (try k_fold)
  k_steps
  cases htm
  all_goals k_steps
  · with_reducible rename News _ _ _ _ => kk9
    simp only [List.push_toArray] at kk9
    with_reducible rename Seen _ _ => ss9
    refine' hret _ _ _ _ _ _ _ _ _ _ _ _ _ _ _ _ _ _ _ ?q1 ?q2 ?q3 ?q4 ?q5 ?q6 ?q7 ?q8 ?q9 ?qa ?qb ?qc ?qd ?o ?f ?n ?k
    case f => k_asm
    case n => refine' Pulls.news kk9 ?P; (case P => walk_at "r pulls")
    case k => k_asm
    case o => refine' Seen.off2 ss9 ?N2 ?P2; (case N2 => k_asm); (case P2 => walk_at "r ins")
    case q6 | q8 => k_asm
    case q1 | q2 | q3 => assumption
    case q4 | q5 => omega
    case q9 | qa | qb | qc | qd => simp only [*]
    case q7 =>
      rw [if_pos ⟨rfl, by assumption⟩]
      exact .some
  · with_reducible rename News _ _ _ _ => kk9
    simp only [List.push_toArray] at kk9
    with_reducible rename Seen _ _ => ss9
    refine' hret _ _ _ _ _ _ _ _ _ _ _ _ _ _ _ _ _ _ _ ?q1 ?q2 ?q3 ?q4 ?q5 ?q6 ?q7 ?q8 ?q9 ?qa ?qb ?qc ?qd ?o ?f ?n ?k
    case f => k_asm
    case n => refine' Pulls.news kk9 ?P; (case P => walk_at "r pulls")
    case k => k_asm
    case o => refine' Seen.off2 ss9 ?N2 ?P2; (case N2 => k_asm); (case P2 => walk_at "r ins")
    case q6 | q8 => k_asm
    case q1 | q2 | q3 => assumption
    case q4 | q5 => omega
    case q9 | qa | qb | qc | qd => simp only [*]
    case q7 =>
      rw [if_neg (fun q => absurd q.2 (by assumption))]
      exact .none
  · with_reducible rename News _ _ _ _ => kk9
    simp only [List.push_toArray] at kk9
    with_reducible rename Seen _ _ => ss9
    refine' hret _ _ _ _ _ _ _ _ _ _ _ _ _ _ _ _ _ _ _ ?q1 ?q2 ?q3 ?q4 ?q5 ?q6 ?q7 ?q8 ?q9 ?qa ?qb ?qc ?qd ?o ?f ?n ?k
    case f => k_asm
    case n => refine' Pulls.news kk9 ?P; (case P => walk_at "r pulls")
    case k => k_asm
    case o => refine' Seen.off2 ss9 ?N2 ?P2; (case N2 => k_asm); (case P2 => walk_at "r ins")
    case q6 | q8 => k_asm
    case q1 | q2 | q3 => assumption
    case q4 | q5 => omega
    case q9 | qa | qb | qc | qd => simp only [*]
    case q7 =>
      rw [if_neg (fun q => nomatch q.1)]
      exact .some
theorem big_ok {x : Int} {c : Bool} : 0 ≤ (if -1 - x > x then -1 - x else x) * (if c = true then 1 else 0) := by
  cases c <;> simp <;> split <;> omega
theorem lines97 : True := by
  k_with "r pool" => ((with_reducible rename Seen _ _ => ss9); (with_reducible rename ∀ (p : Addr) (a : Int) (ta : Tok) (b : Int) (tb : Tok) (n : Nat) (h' : Heap) (tk' : Nat), _ => hret9); refine' hret9 _ _ _ _ _ _ _ _ ?aw9 ?b1w9 ?b2w9 ?ow9 ?fw9 ?nw9 ?kw9; (case nw9 => k_asm); (case fw9 => k_asm); (case kw9 => k_asm); (case ow9 => (refine' Seen.off2 ss9 ?N2w9 ?P2w9; (case N2w9 => k_asm); (case P2w9 => walk_at "r ins"))); (case aw9 => exact big_ok); (case b1w9 => exact (fmodIn (by decide)).1); (case b2w9 => exact (fmodIn (by decide)).2))
  trivial
set_option maxHeartbeats 8000000 in
theorem pool_con (w : World) (mean : ExcName → Option Value) (mg mb : Str → Option Value) (l : Addr) (vs : List Value) (ns : List Int) (k : Int) (tk : Tok) (hi : IntsAre vs ns) (hl : ns.length ≤ 63) (h0 : 0 ≤ k) (h1 : k < 2)
   (hlay : PyData.layable0 (.list (ns.map .int)) = true)
   (dp un : Nat) (gd : Option (List Code)) (cn : Str) (cs : Scope) (x : Addr) (ccd : Value) (cl : List (Str × Addr)) (outer : List Env) (A₀ : Around) (base h₀ : Heap) (L : Addr) (m : Str → Option Value) (s : Shared) (rest : Led) (Q E : Value → Shared → Prop)
   (B : Below A₀ base outer h₀) (F : Fr h₀ L s.heap m) (X : (hd.heap_39 w.params).In h₀) (hL : h₀.IsList l vs.toArray) (NR : Kept h₀ L s.heap rest) (T : Top hd.view_39 (looseW hd.view_39 []) mean mg mb h₀) (hk : cs.kind = .function)
   (hdp : dp + 1 < recursionLimit) (hun : un + 8 * 1 < cLine)
   (hret : ∀ p a ta b tb n h' tk', 0 ≤ a → 0 ≤ b → b < 2147483647 → OwnOff rest [p] → Fr h₀ L h' m → News h₀ L h' [(p, listOf #[.int a ta, .int b tb] n)] → Kept h₀ L h' rest → Q (.ref p) { s with heap := h', toks := tk' }) :
   wpAny (model PySem.Challenge.rw_nu0123_01.row.prog w) (ktrTop dp un gd cn cs L x ccd cl outer) (call (.ref 175) [.ref l, .int k tk]) Q E s := by
  revert X
  k_fill
  w_top off
  intro X
  have N : News h₀ L s.heap [] := News.nil
  have off : OwnOff rest ([].map (fun p : Addr × Obj => p.1)) := fun _ _ _ h => nomatch h
  refine wpAny_call ?_
  k_dflt (walk_at "r enter")
  intro g' L' h' FG' F' N' B' X' T' S'
  have hl' := stays_list FG'.keep hL
  (try dsimp only)
  (try k_fold)
  k_steps
  all_goals walk_at "r pool"
open PyProof.Rows.LCg
structure Ent where
  (a : Addr) (e s : Int) (g : Bool) (te ts : Tok) (n : Nat)
noncomputable abbrev Ent.cell (x : Ent) : Addr × Obj := (x.a, listOf #[.int x.e x.te, .int x.s x.ts, .bool x.g] x.n)
noncomputable abbrev refs (xs : List Ent) : List Value := xs.map fun x => Value.ref x.a
section
variable {prog : Program} {w : World} {A : Around} {E : Value → Shared → Prop} {s : Shared} {h₀ : Heap} {L : Addr} {m : Str → Option Value} {env : Env} {news : Led}
theorem compLoopT {elt target iter : Expr} {ifs : List Expr} {scope : Scope} {pos : Pos} {it acc : Value} {env : Env} {R : Result → Shared → Prop} (I : Nat → Shared → Prop)
    (turn : ∀ n s, I n s → wpAny (model prog w) A (pyNext it) (fun r s₁ => match r with
      | none => R (.ok .next) s₁
      | some v => wpAny (model prog w) A (letOwnedTupleGo target it v) (fun _ s₀ => wpAny (model prog w) A (assign target env v) (fun _ s₂ =>
          wpAny (model prog w) A (forIn ifs true fun c r => if r = true then do let ok ← isTrue c env (eval c env); pure (ForInStep.yield ok) else pure (ForInStep.yield r)) (fun ok s₃ =>
            if ok = true then wpAny (model prog w) A (eval elt env) (fun x s₄ =>
              wpAny (model prog w) A (call (.builtin "list.append") [acc, x]) (fun _ s₅ => ∃ m, m < n ∧ I m s₅) (notedBy (model prog w) A env fun e s' => R (.error e) s') s₄) (notedBy (model prog w) A env fun e s' => R (.error e) s') s₃
            else ∃ m, m < n ∧ I m s₃) (notedBy (model prog w) A env fun e s' => R (.error e) s') s₂) (notedBy (model prog w) A env fun e s' => R (.error e) s') s₀) (notedBy (model prog w) A env fun e s' => R (.error e) s') s₁) (notedBy (model prog w) A env fun e s' => R (.error e) s') s)
    (n : Nat) (h : I n s) : codeAny (model prog w) A (.compLoop (.ListComp elt [⟨target, iter, ifs, 0⟩] scope pos) 0 it acc env) R s := by
  refine codeAny_loop rfl I (fun n s hI => ?_) n h
  show wpAny _ A ((compTurn (.ListComp elt [⟨target, iter, ifs, 0⟩] scope pos) 0 it acc env).onRaise (fun x => do noteFrame x env; theTreesLotGoes x)) _ _ s
  refine wpAny_noted ?_
  rw [compTurn_list]
  refine wpAny_bind (wpAny_standAt (wpAny_bind (wpAny_mono (turn n s hI) (fun r s₁ h₁ => ?_) fun _ _ q => q)))
  cases r with
  | none => exact wpAny_pure h₁
  | some v =>
    refine wpAny_bind (wpAny_mono h₁ (fun _ s₀ h₀ => ?_) fun _ _ q => q)
    refine wpAny_bind (wpAny_mono h₀ (fun _ s₂ h₂ => ?_) fun _ _ q => q)
    refine wpAny_bind (wpAny_mono h₂ (fun ok s₃ h₃ => ?_) fun _ _ q => q)
    cases ok with
    | false => exact wpAny_pure ⟨rfl, h₃⟩
    | true => exact wpAny_bind (wpAny_bind (wpAny_mono h₃ (fun x s₄ h₄ => wpAny_bind (wpAny_mono h₄ (fun _ s₅ h₅ => wpAny_pure (wpAny_pure ⟨rfl, h₅⟩)) fun _ _ q => q)) fun _ _ q => q))
theorem unpackL {l : Addr} {items : Array Value} {targets : List (Bool × (Value → Sem Unit))} {Q : Unit → Shared → Prop} (hh : A.handled = none) (hl : s.heap.IsList l items) (hn : targets.length = items.size) (hstar : targets.findIdx? (·.1) = none)
    (h : ∀ h', Heap.ExtBut s.heap.objs.size s.heap h' → wpAny (model prog w) A (assignInOrder (targets.map (·.2)) items.toList) Q E { s with heap := h' }) : wpAny (model prog w) A (unpack (.ref l) targets) Q E s := by
  unfold unpack
  rw [hn, hstar]
  exact wpAny_bind (wpAny_holding (kun_itemsOf hh hl h))
theorem take_filter_succ {xs : List Ent} {i : Nat} (hi : i < xs.length) (p : Ent → Bool) (f : Ent → Int) :
    ((xs.take (i + 1)).filter p).map f = ((xs.take i).filter p).map f ++ (if p xs[i] then [f xs[i]] else []) := by
  rw [List.take_add_one, List.getElem?_eq_getElem hi, List.filter_append, List.map_append]
  cases h : p xs[i] <;> simp [h]
set_option maxHeartbeats 2000000 in
theorem comp3_block {elt iter c : Expr} {n1 n2 n3 : Str} {p1 p2 p3 tp : Pos} {tk : Nat} {scope : Scope} {cl : List (Str × Addr)} {pos : Pos} {ax : Addr} {xs : List Ent} {nn : Nat} {RR : Value → Addr → Result → Shared → Prop} (p : Ent → Bool) (f : Ent → Int)
    (hcell : ∀ y ∈ scope.names, y.2 ≠ .cell) (hkind : scope.kind = .function) (hx1 : scope.names.lookup n1 = some .local) (hx2 : scope.names.lookup n2 = some .local) (hx3 : scope.names.lookup n3 = some .local)
    (h12 : n1 ≠ n2) (h13 : n1 ≠ n3) (h23 : n2 ≠ n3) (hh : A.handled = none) (hlen : xs.length ≤ 1000)
    (F : Fr h₀ L s.heap m) (N : News h₀ L s.heap news) (hax : (ax, listOf (refs xs).toArray nn) ∈ news) (hxs : ∀ x ∈ xs, x.cell ∈ news)
    (ht : ∀ x ∈ xs, ∀ C oC m₂ h tk E', NsObj oC m₂ → m₂ n1 = some (.int x.e x.te) → m₂ n2 = some (.int x.s x.ts) → m₂ n3 = some (.bool x.g) → Fr h₀ L h m → News h₀ L h ((C, oC) :: news) →
      wpAny (model prog w) A (isTrue c (compEnvC scope cl C env) (eval c (compEnvC scope cl C env))) (fun ok s' => ok = p x ∧ ∃ tk', s' = { s with heap := h, toks := tk' }) E' { s with heap := h, toks := tk })
    (he : ∀ x ∈ xs, p x = true → ∀ C oC m₂ h tk E', NsObj oC m₂ → m₂ n1 = some (.int x.e x.te) → m₂ n2 = some (.int x.s x.ts) → m₂ n3 = some (.bool x.g) → Fr h₀ L h m → News h₀ L h ((C, oC) :: news) →
      wpAny (model prog w) A (eval elt (compEnvC scope cl C env)) (fun y s' => (∃ t, y = .int (f x) t) ∧ ∃ tk', s' = { s with heap := h, toks := tk' }) E' { s with heap := h, toks := tk })
    (hRR : ∀ D C h tk m' ys, Fr h₀ L h m → News h₀ L h ((D, lst ys) :: news) → (∀ q ∈ news, q.1 < D) → h.Ns C m' → h₀.get? C = none → C ≠ L → C ≠ D → (∀ q ∈ news, q.1 ≠ C) → IntsAre ys ((xs.filter p).map f) → RR (.ref D) C (.ok .next) { s with heap := h, toks := tk }) :
    wpAny (model prog w) A (newList []) (fun acc s₃ => wpAny (model prog w) A (newFunctionEnv scope env.globals cl [] env.qual none .none (some env)) (fun cenv s₄ =>
      codeAny (model prog w) A (.compStart (.ListComp elt [⟨.Tuple [.Name n1 p1, .Name n2 p2, .Name n3 p3] tk tp, iter, [c], 0⟩] scope pos) 0 (.ref s.heap.objs.size) acc { cenv with scope := relabel scope env }) (RR acc cenv.locals) s₄) E s₃) E
      { s with heap := s.heap.push { cls := .type "list_iterator", data := .fields #[.ref ax, .int 0 0] } } := by
  refine wpAny_newObj_type (wpAny_newFunctionEnv hcell (by intro y hy; simp at hy) (fun h₁ hns₁ hsb₁ => ?_) hkind)
  dsimp only at hns₁ hsb₁ ⊢
  generalize hG1 : s.heap.push { cls := .type "list_iterator", data := .fields #[.ref ax, .int 0 0] } = G1 at hns₁ hsb₁ ⊢
  generalize hG2 : G1.push { cls := .type "list", dict := none, data := .seq ([] : List Value).toArray } = G2 at hns₁ hsb₁ ⊢
  have z1 : G1.objs.size = s.heap.objs.size + 1 := by rw [← hG1, Heap.size_push]
  have z2 : G2.objs.size = s.heap.objs.size + 2 := by rw [← hG2, Heap.size_push, z1]
  rw [z2] at hns₁ hsb₁
  rw [z1, z2]
  generalize hz : s.heap.objs.size = z at *
  have lt0 : ∀ b o, s.heap.get? b = some o → b < z := fun b o e => hz ▸ Heap.lt_size e
  have nI : ∀ b o, s.heap.get? b = some o → b ≠ z := fun b o e => Nat.ne_of_lt (lt0 b o e)
  have nD : ∀ b o, s.heap.get? b = some o → b ≠ z + 1 := fun b o e => Nat.ne_of_lt (Nat.lt_succ_of_lt (lt0 b o e))
  have nC : ∀ b o, s.heap.get? b = some o → b ≠ z + 2 := fun b o e => Nat.ne_of_lt (Nat.lt_succ_of_lt (Nat.lt_succ_of_lt (lt0 b o e)))
  have id' : z ≠ z + 1 := Nat.ne_of_lt (Nat.lt_succ_self z)
  have ic' : z ≠ z + 2 := Nat.ne_of_lt (Nat.lt_succ_of_lt (Nat.lt_succ_self z))
  have dc' : z + 1 ≠ z + 2 := Nat.ne_of_lt (Nat.lt_succ_self (z + 1))
  have keep0 : ∀ b o, s.heap.get? b = some o → h₁.get? b = some o := fun b o e =>
    hsb₁.extBut b o (nC b o e) (Heap.get?_push_of_some _ (hG2 ▸ Heap.get?_push_of_some _ (hG1 ▸ Heap.get?_push_of_some _ e)))
  have hit0 : h₁.IsListIter z ax 0 := by
    refine ⟨_, hsb₁.extBut z _ ic' (Heap.get?_push_of_some _ (hG2 ▸ Heap.get?_push_of_some _ (hG1 ▸ hz ▸ Heap.get?_push_size _ rfl))), rfl, rfl⟩
  have hD0 : h₁.get? (z + 1) = some (lst []) := hsb₁.extBut _ _ dc' (Heap.get?_push_of_some _ (hG2 ▸ z1 ▸ Heap.get?_push_size _ rfl))
  have hLz : L < z := by obtain ⟨o, _, _, e, _⟩ := F.ns; exact lt0 _ _ e
  have frOf : ∀ h, (∀ b o, s.heap.get? b = some o → h.get? b = some o) → Fr h₀ L h m := fun h k => F.keeps k
  have newsOf : ∀ h, (∀ b o, s.heap.get? b = some o → h.get? b = some o) → News h₀ L h news := fun h k q hq => ⟨k _ _ (N q hq).1, (N q hq).2⟩
  have none₀ : ∀ b, z ≤ b → h₀.get? b = none := fun b hb => by
    cases e : h₀.get? b with
    | none => rfl
    | some o => exact absurd (lt0 _ _ (F.keep b o e)) (Nat.not_lt.mpr hb)
  have axz : ax < z := lt0 _ _ (N _ hax).1
  have loop : ∀ s₃ : Shared, s₃ = { s with heap := h₁, toks := s.toks + ([] : List (Str × Value)).length } →
      codeAny (model prog w) A (.compLoop (.ListComp elt [⟨.Tuple [.Name n1 p1, .Name n2 p2, .Name n3 p3] tk tp, iter, [c], 0⟩] scope pos) 0 (.ref z) (.ref (z + 1)) (compEnvC scope cl (z + 2) env)) (RR (.ref (z + 1)) (z + 2)) s₃ := by
    rintro s₃ rfl
    refine compLoopT
      (fun k s' => ∃ h' tk i ys m', s' = { s with heap := h', toks := tk } ∧ i ≤ xs.length ∧ k = xs.length + 1 - i ∧ h'.IsListIter z ax i ∧ (∀ b o, s.heap.get? b = some o → h'.get? b = some o) ∧ h'.Ns (z + 2) m' ∧
        h'.get? (z + 1) = some (lst ys) ∧ IntsAre ys (((xs.take i).filter p).map f)) ?_ (xs.length + 1)
      ⟨h₁, _, 0, [], _, rfl, Nat.zero_le _, rfl, hit0, keep0, hns₁, hD0, by simpa using IntsAre.nil⟩
    rintro k s' ⟨h', tk', i, ys, m', rfl, hi, rfl, hit, keep, hn, hD, hys⟩
    have hl : h'.IsList ax (refs xs).toArray := ⟨_, keep _ _ (N _ hax).1, rfl, _, rfl⟩
    by_cases hlt : i < xs.length
    · refine wpAny_pyNext_list_item hit hl (x := .ref xs[i].a) (by simp [hlt]) fun h₂ hit₂ hs₂ => ?_
      refine wpAny_letOwnedTupleGo_listiter hit₂ ?_
      have hxi : xs[i] ∈ xs := List.getElem_mem hlt
      have k2 : ∀ b o, s.heap.get? b = some o → h₂.get? b = some o := fun b o e => hs₂.extBut b o (nI _ _ e) (keep b o e)
      have hle : h₂.IsList xs[i].a #[.int xs[i].e xs[i].te, .int xs[i].s xs[i].ts, .bool xs[i].g] := ⟨_, k2 _ _ (N _ (hxs _ hxi)).1, rfl, _, rfl⟩
      rw [PyProof.Rows.assign_Tuple]
      refine wpAny_bind (wpAny_standAt ?_)
      refine unpackL hh hle rfl rfl fun h₃ he₃ => ?_
      have up3 : ∀ b o, h₂.get? b = some o → h₃.get? b = some o := fun b o e => he₃ b o (Nat.ne_of_lt (Heap.lt_size e)) e
      have hn3 : h₃.Ns (z + 2) m' := (hn.at' fun o e => hs₂.extBut _ o (Ne.symm ic') e).at' fun o e => up3 _ o e
      have hnk : (relabel scope env).kind = .function := hkind
      have hloc : ((compEnvC scope cl (z + 2) env).scope.kind == .class || ((compEnvC scope cl (z + 2) env).scope.kind == .module && (compEnvC scope cl (z + 2) env).locals != (compEnvC scope cl (z + 2) env).globals)) = false := by
        simp [compEnvC, relabel, hkind]
      refine assignInOrder_cons (wpAny_assign_Name (wpAny_storeName_local (lookup_relabel_local hx1) hn3 (fun h₄ hn₄ hs₄ => ?_) hloc))
      refine assignInOrder_cons (wpAny_assign_Name (wpAny_storeName_local (lookup_relabel_local hx2) hn₄ (fun h₅ hn₅ hs₅ => ?_) hloc))
      refine assignInOrder_cons (wpAny_assign_Name (wpAny_storeName_local (lookup_relabel_local hx3) hn₅ (fun h₆ hn₆ hs₆ => ?_) hloc))
      refine assignInOrder_nil ?_
      have up6 : ∀ b o, b ≠ z + 2 → h₃.get? b = some o → h₆.get? b = some o := fun b o hb e => hs₆.extBut b o hb (hs₅.extBut b o hb (hs₄.extBut b o hb e))
      have k6 : ∀ b o, s.heap.get? b = some o → h₆.get? b = some o := fun b o e => up6 b o (nC _ _ e) (up3 _ _ (k2 _ _ e))
      have hit6 : h₆.IsListIter z ax (i + 1) := hit₂.at fun o e => up6 _ _ ic' (up3 _ _ e)
      have hD6 : h₆.get? (z + 1) = some (lst ys) := up6 _ _ dc' (up3 _ _ (hs₂.extBut _ _ (Ne.symm id') hD))
      obtain ⟨oC, heC, hoC⟩ := ns_obj hn₆
      have F6 := frOf _ k6
      have NC : News h₀ L h₆ ((z + 2, oC) :: news) := fun q hq => by
        rcases List.mem_cons.mp hq with rfl | hq
        · exact ⟨heC, Ne.symm (Nat.ne_of_lt (Nat.lt_succ_of_lt (Nat.lt_succ_of_lt hLz))), none₀ _ (Nat.le_add_right z 2)⟩
        · exact newsOf _ k6 q hq
      have m1 : (fun y => if y = n3 then some (Value.bool xs[i].g) else if y = n2 then some (Value.int xs[i].s xs[i].ts) else if y = n1 then some (Value.int xs[i].e xs[i].te) else m' y) n1 = some (.int xs[i].e xs[i].te) := by
        simp only [if_neg h13, if_neg h12, if_true]
      have m2 : (fun y => if y = n3 then some (Value.bool xs[i].g) else if y = n2 then some (Value.int xs[i].s xs[i].ts) else if y = n1 then some (Value.int xs[i].e xs[i].te) else m' y) n2 = some (.int xs[i].s xs[i].ts) := by
        simp only [if_neg h23, if_true]
      have m3 : (fun y => if y = n3 then some (Value.bool xs[i].g) else if y = n2 then some (Value.int xs[i].s xs[i].ts) else if y = n1 then some (Value.int xs[i].e xs[i].te) else m' y) n3 = some (.bool xs[i].g) := by
        simp only [if_true]
      refine wpAny_tests_one (wpAny_mono (ht _ hxi (z + 2) oC _ h₆ _ _ hoC m1 m2 m3 F6 NC) (fun ok s₃ h3 => ?_) fun _ _ q => q)
      obtain ⟨rfl, tk3, rfl⟩ := h3
      by_cases hp : p xs[i] = true
      · rw [if_pos hp]
        refine wpAny_mono (he _ hxi hp (z + 2) oC _ h₆ _ _ hoC m1 m2 m3 F6 NC) (fun y s₄ h4 => ?_) fun _ _ q => q
        obtain ⟨⟨t, rfl⟩, tk4, rfl⟩ := h4
        have hyl : ys.length ≤ 1000 := by
          have e1 := hys.length
          have e2 := List.length_filter_le p (xs.take i)
          rw [List.length_map] at e1
          rw [List.length_take] at e2
          omega
        refine append_at (hsz := by rw [List.size_toArray, sizeLine_eq]; omega) hD6 fun h₇ hs₇ hD₇ => ?_
        have up7 : ∀ b o, b ≠ z + 1 → h₆.get? b = some o → h₇.get? b = some o := fun b o hb e => hs₇.extBut b o hb e
        refine ⟨xs.length + 1 - (i + 1), by omega, h₇, _, i + 1, ys ++ [.int (f xs[i]) t], _, rfl, hlt, rfl, hit6.at fun o e => up7 _ _ id' e, fun b o e => up7 b o (nD _ _ e) (k6 b o e),
          hn₆.at' fun o e => up7 _ _ (Ne.symm dc') e, hD₇.trans (congrArg some (lst_snoc ys _)), ?_⟩
        rw [take_filter_succ hlt, if_pos hp]
        exact hys.append (.cons _ _ .nil)
      · rw [if_neg hp]
        refine ⟨xs.length + 1 - (i + 1), by omega, h₆, _, i + 1, ys, _, rfl, hlt, rfl, hit6, k6, hn₆, hD6, ?_⟩
        rw [take_filter_succ hlt, if_neg hp, List.append_nil]
        exact hys
    · obtain rfl : i = xs.length := Nat.le_antisymm hi (Nat.not_lt.mp hlt)
      refine wpAny_pyNext_list_end hh hit hl (by simp) fun h₂ he₂ => ?_
      have k2 : ∀ b o, s.heap.get? b = some o → h₂.get? b = some o := fun b o e => he₂ b o (nI _ _ e) (keep b o e)
      rw [List.take_length] at hys
      refine hRR (z + 1) (z + 2) h₂ _ m' ys (frOf _ k2) (fun q hq => ?_) (fun q hq => by have := lt0 _ _ (N q hq).1; exact Nat.lt_succ_of_lt this) (hn.at' fun o e => he₂ _ o (Ne.symm ic') e) (none₀ _ (Nat.le_add_right z 2)) (Ne.symm (Nat.ne_of_lt (Nat.lt_succ_of_lt (Nat.lt_succ_of_lt hLz)))) (Ne.symm dc') (fun q hq => nC _ _ (N q hq).1) hys
      rcases List.mem_cons.mp hq with rfl | hq
      · exact ⟨he₂ _ _ (Ne.symm id') hD, Ne.symm (Nat.ne_of_lt (Nat.lt_succ_of_lt hLz)), none₀ _ (Nat.le_add_right z 1)⟩
      · exact newsOf _ k2 q hq
  exact codeAny_compStart_list (loop _ rfl) (wpAny_pyIter_listiter hit0 (loop _ rfl))
theorem comp3_eval {elt iter c : Expr} {n1 n2 n3 : Str} {p1 p2 p3 tp : Pos} {tk : Nat} {scope : Scope} {cl : List (Str × Addr)} {pos : Pos} {ax : Addr} {xs : List Ent} {nn : Nat} {Q : Value → Shared → Prop} (p : Ent → Bool) (f : Ent → Int)
    (hclos : closureFor scope env = pure cl) (hnames : ∀ y ∈ scope.names, y.2 = .local → scope.names.lookup y.1 = some .local)
    (hcell : ∀ y ∈ scope.names, y.2 ≠ .cell) (hkind : scope.kind = .function) (hx1 : scope.names.lookup n1 = some .local) (hx2 : scope.names.lookup n2 = some .local) (hx3 : scope.names.lookup n3 = some .local)
    (h12 : n1 ≠ n2) (h13 : n1 ≠ n3) (h23 : n2 ≠ n3) (hh : A.handled = none) (hlen : xs.length ≤ 1000)
    (F : Fr h₀ L s.heap m) (N : News h₀ L s.heap news) (hax : (ax, listOf (refs xs).toArray nn) ∈ news) (hxs : ∀ x ∈ xs, x.cell ∈ news)
    (hi : wpAny (model prog w) A (eval iter env) (fun xv s₁ => xv = .ref ax ∧ s₁ = s) E s) (hs : ∀ x, foldedSetIterable iter env x = pure x)
    (ht : ∀ x ∈ xs, ∀ C oC m₂ h tk E', NsObj oC m₂ → m₂ n1 = some (.int x.e x.te) → m₂ n2 = some (.int x.s x.ts) → m₂ n3 = some (.bool x.g) → Fr h₀ L h m → News h₀ L h ((C, oC) :: news) →
      wpAny (model prog w) A (isTrue c (compEnvC scope cl C env) (eval c (compEnvC scope cl C env))) (fun ok s' => ok = p x ∧ ∃ tk', s' = { s with heap := h, toks := tk' }) E' { s with heap := h, toks := tk })
    (he : ∀ x ∈ xs, p x = true → ∀ C oC m₂ h tk E', NsObj oC m₂ → m₂ n1 = some (.int x.e x.te) → m₂ n2 = some (.int x.s x.ts) → m₂ n3 = some (.bool x.g) → Fr h₀ L h m → News h₀ L h ((C, oC) :: news) →
      wpAny (model prog w) A (eval elt (compEnvC scope cl C env)) (fun y s' => (∃ t, y = .int (f x) t) ∧ ∃ tk', s' = { s with heap := h, toks := tk' }) E' { s with heap := h, toks := tk })
    (h : ∀ D h' tk' ys, Fr h₀ L h' m → News h₀ L h' ((D, lst ys) :: news) → (∀ q ∈ news, q.1 < D) → IntsAre ys ((xs.filter p).map f) → Q (.ref D) { s with heap := h', toks := tk' }) :
    wpAny (model prog w) A (eval (.ListComp elt [⟨.Tuple [.Name n1 p1, .Name n2 p2, .Name n3 p3] tk tp, iter, [c], 0⟩] scope pos) env) Q E s := by
  rw [eval_ListComp]
  refine wpAny_comprehension_free (use := none) rfl hs hclos hkind hnames (wpAny_mono hi (fun xv s₁ h₁ => ?_) fun _ _ q => q)
  obtain ⟨rfl, rfl⟩ := h₁
  have hl : s₁.heap.IsList ax (refs xs).toArray := ⟨_, (N _ hax).1, rfl, _, rfl⟩
  refine wpAny_pyIter_list hl ?_
  refine comp3_block p f hcell hkind hx1 hx2 hx3 h12 h13 h23 hh hlen F N hax hxs ht he ?_
  intro D C h' tk' m' ys F' N' hD hn hC₀ hCL hCD offC hys
  refine ⟨m', hn, fun h'' hs'' => h D h'' tk' ys (F'.change hs'' hCL hC₀) (fun q hq => ⟨hs''.extBut _ _ ?_ (N' q hq).1, (N' q hq).2⟩) hD hys⟩
  rcases List.mem_cons.mp hq with rfl | hq
  · exact Ne.symm hCD
  · exact offC q hq
theorem comp3_assign {elt iter c : Expr} {y n1 n2 n3 : Str} {py p1 p2 p3 tp : Pos} {tk : Nat} {scope : Scope} {cl : List (Str × Addr)} {pos spos : Pos} {ax : Addr} {xs : List Ent} {nn : Nat} {Q : Flow → Shared → Prop} (p : Ent → Bool) (f : Ent → Int)
    (hLe : env.locals = L) (hsw : swapsWith (.ListComp elt [⟨.Tuple [.Name n1 p1, .Name n2 p2, .Name n3 p3] tk tp, iter, [c], 0⟩] scope pos) (some (.Name y py)) spos.line env = pure true)
    (hy : env.kindOf y = some .local) (hpl : (env.scope.kind == .class || (env.scope.kind == .module && env.locals != env.globals)) = false)
    (hclos : closureFor scope env = pure cl) (hnames : ∀ y ∈ scope.names, y.2 = .local → scope.names.lookup y.1 = some .local)
    (hcell : ∀ y ∈ scope.names, y.2 ≠ .cell) (hkind : scope.kind = .function) (hx1 : scope.names.lookup n1 = some .local) (hx2 : scope.names.lookup n2 = some .local) (hx3 : scope.names.lookup n3 = some .local)
    (h12 : n1 ≠ n2) (h13 : n1 ≠ n3) (h23 : n2 ≠ n3) (hh : A.handled = none) (hlen : xs.length ≤ 1000)
    (F : Fr h₀ L s.heap m) (N : News h₀ L s.heap news) (hax : (ax, listOf (refs xs).toArray nn) ∈ news) (hxs : ∀ x ∈ xs, x.cell ∈ news)
    (hi : wpAny (model prog w) A (eval iter env) (fun xv s₁ => xv = .ref ax ∧ s₁ = s) E s) (hs : ∀ x, foldedSetIterable iter env x = pure x)
    (ht : ∀ x ∈ xs, ∀ C oC m₂ h tk E', NsObj oC m₂ → m₂ n1 = some (.int x.e x.te) → m₂ n2 = some (.int x.s x.ts) → m₂ n3 = some (.bool x.g) → Fr h₀ L h m → News h₀ L h ((C, oC) :: news) →
      wpAny (model prog w) A (isTrue c (compEnvC scope cl C env) (eval c (compEnvC scope cl C env))) (fun ok s' => ok = p x ∧ ∃ tk', s' = { s with heap := h, toks := tk' }) E' { s with heap := h, toks := tk })
    (he : ∀ x ∈ xs, p x = true → ∀ C oC m₂ h tk E', NsObj oC m₂ → m₂ n1 = some (.int x.e x.te) → m₂ n2 = some (.int x.s x.ts) → m₂ n3 = some (.bool x.g) → Fr h₀ L h m → News h₀ L h ((C, oC) :: news) →
      wpAny (model prog w) A (eval elt (compEnvC scope cl C env)) (fun y s' => (∃ t, y = .int (f x) t) ∧ ∃ tk', s' = { s with heap := h, toks := tk' }) E' { s with heap := h, toks := tk })
    (h : ∀ D h' tk' ys, Fr h₀ L h' (fun z => if z = y then some (.ref D) else m z) → News h₀ L h' ((D, lst ys) :: news) → (∀ q ∈ news, q.1 < D) → IntsAre ys ((xs.filter p).map f) → Q .next { s with heap := h', toks := tk' }) :
    wpAny (model prog w) A (exec (.Assign [.Name y py] (.ListComp elt [⟨.Tuple [.Name n1 p1, .Name n2 p2, .Name n3 p3] tk tp, iter, [c], 0⟩] scope pos) spos) env) Q E s := by
  subst hLe
  rw [exec_Assign_Name_used _ _ _ _ hsw]
  refine wpAny_bind (wpAny_standAt (wpAny_bind ?_))
  show wpAny _ A (do let _ ← comprehension (.ListComp elt [⟨.Tuple [.Name n1 p1, .Name n2 p2, .Name n3 p3] tk tp, iter, [c], 0⟩] scope pos) scope env _ (newList []) false (eval iter env) (some (assign (.Name y py) env))) _ _ s
  refine wpAny_bind (wpAny_mono (wpAny_comprehension_free (use := some (assign (.Name y py) env)) (Q := fun _ s' => Q .next s') rfl hs hclos hkind hnames
    (wpAny_mono hi (fun xv s₁ h₁ => ?_) fun _ _ q => q)) (fun _ s' hq => wpAny_pure (wpAny_pure hq)) fun _ _ q => q)
  obtain ⟨rfl, rfl⟩ := h₁
  have hl : s₁.heap.IsList ax (refs xs).toArray := ⟨_, (N _ hax).1, rfl, _, rfl⟩
  refine wpAny_pyIter_list hl ?_
  refine comp3_block p f hcell hkind hx1 hx2 hx3 h12 h13 h23 hh hlen F N hax hxs ht he ?_
  intro D C h' tk' m' ys F' N' hD hn hC₀ hCL hCD offC hys
  show wpAny _ A (assign (.Name y py) env (.ref D)) _ _ _
  refine wpAny_assign_Name (wpAny_storeName_local hy F'.ns (fun h₂ hn₂ hs₂ => ?_) hpl)
  have F₂ := F'.set hn₂ hs₂
  have N₂ := N'.set hs₂
  refine ⟨m', hn.sameBut hs₂ hCL, fun h'' hs'' => h D h'' _ ys (F₂.change hs'' hCL hC₀) (fun q hq => ⟨hs''.extBut _ _ ?_ (N₂ q hq).1, (N₂ q hq).2⟩) hD hys⟩
  rcases List.mem_cons.mp hq with rfl | hq
  · exact Ne.symm hCD
  · exact offC q hq
end
open PyProof.Rows.LCg
noncomputable def mark (x : Ent) : Ent := { x with g := true }
section
variable {prog : Program} {w : World} {A : Around} {E : Value → Shared → Prop} {s : Shared} {h₀ : Heap} {m : Str → Option Value} {env : Env} {others : Led}
theorem upd_cell {h : Heap} {x : Ent} (e : h.get? x.a = some x.cell.2) : (h.update x.a (Obj.mapSeq (·.setIfInBounds 2 (.bool true)))).get? x.a = some (mark x).cell.2 := by
  have q := PySem.IsL.update (items := #[.int x.e x.te, .int x.s x.ts, .bool x.g]) e (·.setIfInBounds 2 (.bool true))
  exact q
theorem nodup_parts {xs : List Ent} {i : Nat} (hi : i < xs.length) (hnd : (xs.map (·.a)).Nodup) : (∀ y ∈ xs.take i, y.a ≠ xs[i].a) ∧ ∀ y ∈ xs.drop (i + 1), y.a ≠ xs[i].a := by
  have e : xs = xs.take i ++ xs[i] :: xs.drop (i + 1) := by
    rw [← List.drop_eq_getElem_cons hi, List.take_append_drop]
  have hnd2 : ((xs.take i ++ xs[i] :: xs.drop (i + 1)).map (·.a)).Nodup := by rw [← e]; exact hnd
  rw [List.map_append, List.map_cons, List.nodup_append] at hnd2
  obtain ⟨_, h2, h3⟩ := hnd2
  refine ⟨fun y hy => h3 _ (List.mem_map_of_mem hy) _ List.mem_cons_self, fun y hy q => ?_⟩
  have := (List.nodup_cons.mp h2).1
  exact this (q ▸ List.mem_map_of_mem (f := fun y : Ent => y.a) hy)
set_option maxHeartbeats 1000000 in
theorem mark_loop {x : Str} {px pos : Pos} {iter : Expr} {body : List Stmt} {ax : Addr} {xs : List Ent} {nn : Nat} {Q : Flow → Shared → Prop} (hx : env.kindOf x = some .local)
    (hp : (env.scope.kind == .class || (env.scope.kind == .module && env.locals != env.globals)) = false) (hh : A.handled = none)
    (F : Fr h₀ env.locals s.heap m) (N : News h₀ env.locals s.heap (xs.map Ent.cell ++ others)) (hax : (ax, listOf (refs xs).toArray nn) ∈ others) (hnd : (xs.map (·.a)).Nodup) (hoff : ∀ y ∈ xs, ∀ q ∈ others, q.1 ≠ y.a)
    (hi : wpAny (model prog w) A (eval iter env) (fun xv s₁ => xv = .ref ax ∧ ∃ tk, s₁ = { s with toks := tk }) E s)
    (turn : ∀ i (hi : i < xs.length) h tk (m₁ : Str → Option Value), Fr h₀ env.locals h (fun z => if z = x then some (.ref xs[i].a) else m₁ z) → h.get? xs[i].a = some xs[i].cell.2 →
      wpAny (model prog w) A (execs body env) (fun f s₂ => f = .next ∧ ∃ tk', s₂ = { s with heap := h.update xs[i].a (Obj.mapSeq (·.setIfInBounds 2 (.bool true))), toks := tk' }) E { s with heap := h, toks := tk })
    (h : ∀ (u : Str → Option Value) h' tk, Fr h₀ env.locals h' (fun z => if z = x then u z else m z) → News h₀ env.locals h' (xs.map (fun y => (mark y).cell) ++ others) → Q .next { s with heap := h', toks := tk })
    (hs : ∀ x, foldedSetIterable iter env x = pure x) (hE : PassesOwn (model prog w) A env E) :
    wpAny (model prog w) A (exec (.For (.Name x px) iter body [] pos) env) Q E s := by
  refine For_invV h₀ hx hp (wpAny_mono hi (fun xv s₁ h₁ => ?_) fun _ _ q => q) hs hE
  obtain ⟨rfl, tk0, rfl⟩ := h₁
  have hmx : (ax, listOf (refs xs).toArray nn) ∈ xs.map Ent.cell ++ others := List.mem_append_right _ hax
  have hol : s.heap.get? ax = some (listOf (refs xs).toArray nn) := (N _ hmx).1
  have hl : s.heap.IsList ax (refs xs).toArray := ⟨_, hol, rfl, nn, rfl⟩
  have hne : ax ≠ s.heap.objs.size := Nat.ne_of_lt (Heap.lt_size hol)
  refine wpAny_pyIter_list hl ?_
  have W := Walks.list (prog := prog) (w := w) hh s.heap.objs.size ax hne (refs xs).toArray
  have hlen : (refs xs).toArray.size = xs.length := by simp [refs]
  rw [hlen] at W
  have ha : ∀ y ∈ xs, s.heap.get? y.a = some y.cell.2 := fun y hy => (N y.cell (List.mem_append_left _ (List.mem_map_of_mem hy))).1
  refine ⟨_, _, _, xs.length, _, _, m, xs.map Ent.cell ++ others,
    (fun i m₁ nx => nx = (xs.take i).map (fun y => (mark y).cell) ++ ((xs.drop i).map Ent.cell ++ others) ∧ ∀ z, z ≠ x → m₁ z = m z), rfl, W, ?_, ?_, ?_,
    ⟨⟨_, Heap.get?_push_size _ rfl, rfl, rfl⟩, hl.push _⟩, F.push _, (fun p hp => ⟨Heap.get?_push_of_some _ (N p hp).1, (N p hp).2⟩), ⟨by simp, fun _ _ => rfl⟩, ?_, ?_⟩
  · intro hm
    rcases List.mem_cons.mp hm with e | hm
    · exact absurd F.ns.lt (e ▸ Nat.lt_irrefl _)
    · exact (N _ hmx).2.1 ((List.mem_singleton.mp hm).symm)
  · intro b hb
    rw [List.mem_singleton.mp hb]
    exact next_is_new F
  · intro p hp hI
    exact absurd (Heap.lt_size (N p hp).1) ((List.mem_singleton.mp hI) ▸ Nat.lt_irrefl _)
  · rintro i v m₁ news₁ s₁ own ⟨hh', tk', rfl⟩ hin hP ⟨rfl, hm⟩ hoffI hown _ _ _ F₁ N₁
    have hv : v = .ref xs[i].a := by
      have hP' : (refs xs).toArray[i]? = some v := hP
      rw [List.getElem?_toArray, List.getElem?_map, List.getElem?_eq_getElem hin] at hP'
      exact (Option.some.inj hP').symm
    subst hv
    have hxi : xs[i] ∈ xs := List.getElem_mem hin
    have hdrop : xs.drop i = xs[i] :: xs.drop (i + 1) := List.drop_eq_getElem_cons hin
    obtain ⟨nA, nB⟩ := nodup_parts hin hnd
    have hmem : xs[i].cell ∈ own ++ ((xs.take i).map (fun y => (mark y).cell) ++ ((xs.drop i).map Ent.cell ++ others)) := by
      rw [hdrop, List.map_cons]
      exact List.mem_append_right _ (List.mem_append_right _ (List.mem_append_left _ List.mem_cons_self))
    have hobj : hh'.get? xs[i].a = some xs[i].cell.2 := (N₁ _ hmem).1
    refine wpAny_mono (turn i hin hh' tk' m₁ F₁ hobj) (fun f s₂ p => ?_) fun _ _ q => q
    obtain ⟨rfl, tk2, rfl⟩ := p
    have hsb : Heap.SameBut xs[i].a hh' (hh'.update xs[i].a (Obj.mapSeq (·.setIfInBounds 2 (.bool true)))) := Heap.SameBut.update ..
    have keep : ∀ q : Addr × Obj, q ∈ own ++ ((xs.take i).map (fun y => (mark y).cell) ++ ((xs.drop i).map Ent.cell ++ others)) → q.1 ≠ xs[i].a →
        (hh'.update xs[i].a (Obj.mapSeq (·.setIfInBounds 2 (.bool true)))).get? q.1 = some q.2 ∧ q.1 ≠ env.locals ∧ h₀.get? q.1 = none := fun q hq hne' =>
      ⟨hsb.extBut _ _ hne' (N₁ q hq).1, (N₁ q hq).2⟩
    refine .next (LoopStepU.intro (F₁.change hsb (N₁ _ hmem).2.1 (N₁ _ hmem).2.2) (fun q hq => ?_) (news₂ := (xs.take (i + 1)).map (fun y => (mark y).cell) ++ ((xs.drop (i + 1)).map Ent.cell ++ others)) (fun q hq hI => ?_) ⟨rfl, fun z hz => ?_⟩)
    · rcases List.mem_append.mp hq with hq | hq
      · refine keep q (List.mem_append_left _ hq) fun e => ?_
        rcases List.mem_cons.mp (hown q hq) with h1 | h1
        · exact absurd (Heap.lt_size (ha _ hxi)) (by rw [← e, h1]; exact Nat.lt_irrefl _)
        · exact hoff _ hxi _ hax ((List.mem_singleton.mp h1).symm.trans e)
      · rcases List.mem_append.mp hq with hq | hq
        · rw [List.take_add_one, List.getElem?_eq_getElem hin, List.map_append] at hq
          rcases List.mem_append.mp hq with hq | hq
          · obtain ⟨y, hy, rfl⟩ := List.mem_map.mp hq
            exact keep _ (List.mem_append_right _ (List.mem_append_left _ (List.mem_map_of_mem (f := fun y => (mark y).cell) hy))) (nA y hy)
          · have hq' : q = (mark xs[i]).cell := by simpa using hq
            subst hq'
            exact ⟨upd_cell hobj, (N₁ _ hmem).2.1, (N₁ _ hmem).2.2⟩
        · rcases List.mem_append.mp hq with hq | hq
          · obtain ⟨y, hy, rfl⟩ := List.mem_map.mp hq
            exact keep _ (List.mem_append_right _ (List.mem_append_right _ (List.mem_append_left _ (by rw [hdrop]; exact List.mem_map_of_mem (List.mem_cons_of_mem _ hy))))) (nB y hy)
          · exact keep _ (List.mem_append_right _ (List.mem_append_right _ (List.mem_append_right _ hq))) (hoff _ hxi _ hq)
    · have hI' := List.mem_singleton.mp hI
      rcases List.mem_append.mp hq with hq | hq
      · obtain ⟨y, hy, rfl⟩ := List.mem_map.mp hq
        exact absurd (Heap.lt_size (ha y (List.mem_of_mem_take hy))) (by rw [show y.a = s.heap.objs.size from hI']; exact Nat.lt_irrefl _)
      · rcases List.mem_append.mp hq with hq | hq
        · obtain ⟨y, hy, rfl⟩ := List.mem_map.mp hq
          exact absurd (Heap.lt_size (ha y (List.mem_of_mem_drop hy))) (by rw [show y.a = s.heap.objs.size from hI']; exact Nat.lt_irrefl _)
        · exact absurd (Heap.lt_size (N q (List.mem_append_right _ hq)).1) (by rw [hI']; exact Nat.lt_irrefl _)
    · simp only [if_neg hz]
      exact hm z hz
  · rintro h' tk m' news' F' N' _ ⟨rfl, hm⟩
    rw [List.take_length, List.drop_length, List.map_nil, List.nil_append] at N'
    refine h m' h' tk ?_ N'
    have e : (fun z => if z = x then m' z else m z) = m' := by
      funext z
      by_cases hz : z = x
      · rw [if_pos hz]
      · rw [if_neg hz]; exact (hm z hz).symm
    rw [e]
    exact F'
end
theorem refs_len (xs : List Ent) : (refs xs).length = xs.length := List.length_map _
theorem min_up {k : Int} {n : Nat} (h : 0 ≤ k) : max 0 (min k (n : Int)) = ((min k.toNat n : Nat) : Int) := by
  obtain ⟨j, rfl⟩ := Int.eq_ofNat_of_zero_le h
  rw [Int.toNat_natCast]
  rcases Nat.le_total j n with q | q
  · rw [Nat.min_eq_left q, Int.min_eq_left (Int.ofNat_le.mpr q), Int.max_eq_right h]
  · rw [Nat.min_eq_right q, Int.min_eq_right (Int.ofNat_le.mpr q), Int.max_eq_right (Int.natCast_nonneg _)]
section
variable {prog : Program} {w : World} {A : Around} {E : Value → Shared → Prop} {s : Shared} {h₀ : Heap} {L l : Addr} {m : Str → Option Value} {news : List (Addr × Obj)} {value slice : PySem.Expr} {Q : Value → Shared → Prop}
theorem cutTo {xs : List Ent} {k : Int} {t : Tok} {n : Nat} (F : Fr h₀ L s.heap m) (N : News h₀ L s.heap news) (hm : (l, listOf (refs xs).toArray n) ∈ news) (h0 : 0 ≤ k) (hx : xs.length ≤ 1000)
    (h : ∀ D h', Fr h₀ L h' m → News h₀ L h' ((D, listOf (refs (xs.take k.toNat)).toArray 0) :: news) → (∀ p ∈ news, p.1 < D) → Q (.ref D) { s with heap := h' })
    (hs : subscripted slice false (.ref l) (.ref s.heap.objs.size) = operate [.ref s.heap.objs.size, .ref l] (getItem (.ref l) (.ref s.heap.objs.size))) (ht : ∀ r, letTemporaryGo value (.ref l) r = pure ()) :
    wpAny (model prog w) A (subscriptTail value slice (.ref l) (.ref s.heap.objs.size)) Q E { s with heap := s.heap.push { cls := .type "slice", data := .fields #[.none, .int k t, .none] } } := by
  have hl : s.heap.IsList l (refs xs).toArray := ⟨_, (N _ hm).1, rfl, n, rfl⟩
  have hz : (refs xs).toArray.size = xs.length := by rw [List.size_toArray, refs_len]
  refine kmk_slice_lit (lo := none) (hi := some k) F N hl IsPart.none (IsPart.int _ _) ?_ h hs ht (by rw [hz, sizeLine_eq]; omega)
  have e : sliceBounds none (some k) none (refs xs).toArray.size = (((0 : Nat) : Int), ((min k.toNat (refs xs).toArray.size : Nat) : Int), 1) := by
    simp only [sliceBounds, Option.getD_none, show (1 : Int) > 0 by decide, if_true, if_neg (show ¬ (k < 0) by omega)]
    congr 1
    congr 1
    exact min_up h0
  rw [kmk_pick_nat _ e]
  show ((refs xs).drop 0).take (min k.toNat (refs xs).toArray.size - 0) = _
  rw [List.drop_zero, Nat.sub_zero, List.size_toArray, kmk_take_min]
  exact List.map_take.symm
theorem cutFrom {xs : List Ent} {k : Int} {t : Tok} {n : Nat} (F : Fr h₀ L s.heap m) (N : News h₀ L s.heap news) (hm : (l, listOf (refs xs).toArray n) ∈ news) (h0 : 0 ≤ k) (hx : xs.length ≤ 1000)
    (h : ∀ D h', Fr h₀ L h' m → News h₀ L h' ((D, listOf (refs (xs.drop k.toNat)).toArray 0) :: news) → (∀ p ∈ news, p.1 < D) → Q (.ref D) { s with heap := h' })
    (hs : subscripted slice false (.ref l) (.ref s.heap.objs.size) = operate [.ref s.heap.objs.size, .ref l] (getItem (.ref l) (.ref s.heap.objs.size))) (ht : ∀ r, letTemporaryGo value (.ref l) r = pure ()) :
    wpAny (model prog w) A (subscriptTail value slice (.ref l) (.ref s.heap.objs.size)) Q E { s with heap := s.heap.push { cls := .type "slice", data := .fields #[.int k t, .none, .none] } } := by
  have hl : s.heap.IsList l (refs xs).toArray := ⟨_, (N _ hm).1, rfl, n, rfl⟩
  have hz : (refs xs).toArray.size = xs.length := by rw [List.size_toArray, refs_len]
  refine kmk_slice_lit (lo := some k) (hi := none) F N hl (IsPart.int _ _) IsPart.none ?_ h hs ht (by rw [hz, sizeLine_eq]; omega)
  have e : sliceBounds (some k) none none (refs xs).toArray.size = (((min k.toNat (refs xs).toArray.size : Nat) : Int), (((refs xs).toArray.size : Nat) : Int), 1) := by
    simp only [sliceBounds, Option.getD_none, show (1 : Int) > 0 by decide, if_true, if_neg (show ¬ (k < 0) by omega)]
    congr 1
    exact min_up h0
  rw [kmk_pick_nat _ e]
  show ((refs xs).drop (min k.toNat (refs xs).toArray.size)).take ((refs xs).toArray.size - min k.toNat (refs xs).toArray.size) = _
  rw [List.size_toArray, kmk_drop_min, List.take_of_length_le (by rw [List.length_drop]; omega)]
  exact List.map_drop.symm
end
noncomputable def Ok : List Ent → Int → Prop
  | [], _ => True
  | x :: r, nx => (∀ y ∈ r, x.e < y.e) ∧ x.e ≤ nx ∧ nx ≤ x.e + 9 * (r.length : Int) ∧ Ok r nx
theorem Ok.drop : ∀ {xs : List Ent} {nx : Int} (k : Nat), Ok xs nx → Ok (xs.drop k) nx
  | _, _, 0, h => h
  | [], _, _ + 1, _ => by simp [Ok]
  | _ :: _, _, k + 1, h => Ok.drop (xs := _) k h.2.2.2
theorem Ok.near {xs : List Ent} {nx : Int} {n : Nat} (h : Ok xs nx) (hl : xs.length ≤ n + 1) (x : Ent) (hx : x ∈ xs) : x.e ≤ nx ∧ nx ≤ x.e + 9 * (n : Int) := by
  induction xs with
  | nil => cases hx
  | cons z r ih =>
    have hr : r.length ≤ n := Nat.le_of_succ_le_succ hl
    rcases List.mem_cons.mp hx with hx | hx
    · subst hx
      exact ⟨h.2.1, Int.le_trans h.2.2.1 (Int.add_le_add_left (Int.mul_le_mul_of_nonneg_left (Int.ofNat_le.mpr hr) (show (0 : Int) ≤ 9 by decide)) _)⟩
    · exact ih h.2.2.2 (Nat.le_succ_of_le hr) hx
theorem Ok.lt {xs : List Ent} {nx : Int} {k : Nat} (h : Ok xs nx) (x : Ent) (hx : x ∈ xs.take k) (y : Ent) (hy : y ∈ xs.drop k) : x.e < y.e := by
  induction xs generalizing k with
  | nil => rw [List.take_nil] at hx; cases hx
  | cons z r ih =>
    cases k with
    | zero => exact absurd hx List.not_mem_nil
    | succ k =>
      rcases List.mem_cons.mp hx with hx | hx
      · subst hx
        exact h.1 y (List.mem_of_mem_drop hy)
      · exact ih h.2.2.2 hx hy
theorem Ok.inj {xs : List Ent} {nx : Int} (h : Ok xs nx) (x : Ent) (hx : x ∈ xs) (y : Ent) (hy : y ∈ xs) (e : x.e = y.e) : x = y := by
  induction xs with
  | nil => cases hx
  | cons z r ih =>
    rcases List.mem_cons.mp hx with h1 | h1
    · rcases List.mem_cons.mp hy with h2 | h2
      · rw [h1, h2]
      · exact absurd (h.1 y h2) (by rw [← h1, e]; exact Int.lt_irrefl _)
    · rcases List.mem_cons.mp hy with h2 | h2
      · exact absurd (h.1 x h1) (by rw [← h2, e]; exact Int.lt_irrefl _)
      · exact ih h.2.2.2 h1 h2
theorem Ok.snoc {xs : List Ent} {nx nx' : Int} {z : Ent} (h : Ok xs nx) (h1 : nx < nx') (h2 : nx' ≤ nx + 9) (e : z.e = nx') : Ok (xs ++ [z]) nx' := by
  subst e
  induction xs with
  | nil => exact ⟨fun _ h => (nomatch h), Int.le_refl _, Int.le_of_eq (Int.add_zero _).symm, trivial⟩
  | cons x r ih =>
    refine ⟨fun y hy => ?_, Int.le_trans h.2.1 (Int.le_of_lt h1), ?_, ih h.2.2.2⟩
    · rcases List.mem_append.mp hy with hy | hy
      · exact h.1 y hy
      · rw [List.mem_singleton.mp hy]
        exact Int.lt_of_le_of_lt h.2.1 h1
    · have h3 := h.2.2.1
      clear h ih
      show z.e ≤ x.e + 9 * (((r ++ [z]).length : Nat) : Int)
      rw [List.length_append, List.length_singleton]
      omega
theorem Ok.mark : ∀ {xs : List Ent} {nx : Int}, Ok xs nx → Ok (xs.map mark) nx
  | [], _, _ => trivial
  | x :: r, nx, h => by
    refine ⟨fun y hy => ?_, h.2.1, by rw [List.length_map]; exact h.2.2.1, Ok.mark h.2.2.2⟩
    obtain ⟨z, hz, rfl⟩ := List.mem_map.mp hy
    exact h.1 z hz
theorem Ok.mark1 {x : Ent} {r : List Ent} {nx : Int} (h : Ok (x :: r) nx) : Ok (Mine.mark x :: r) nx := h
noncomputable def Timed (xs : List Ent) (otm oe : Option Int) (tta ring : Int) : Prop := match otm with
  | none => oe = none
  | some T => oe = some (T.fmod ring) ∧ ∃ x ∈ xs, x.e = T ∧ x.g = false ∧ x.s = tta
noncomputable def isT (otm : Option Int) (x : Ent) : Bool := match otm with
  | none => false
  | some T => decide (x.e = T)
theorem filter_one {xs : List Ent} {x : Ent} {p : Ent → Bool} (hx : x ∈ xs) (hp : p x = true) (hn : xs.Nodup) (hu : ∀ y ∈ xs, p y = true → y = x) : xs.filter p = [x] := by
  induction xs with
  | nil => cases hx
  | cons z r ih =>
    have hz := List.nodup_cons.mp hn
    rcases List.mem_cons.mp hx with rfl | hx
    · rw [List.filter_cons_of_pos hp]
      congr 1
      refine List.filter_eq_nil_iff.mpr fun y hy hpy => ?_
      have := hu y (List.mem_cons_of_mem _ hy) hpy
      exact hz.1 (this ▸ hy)
    · have hzx : z ≠ x := fun e => hz.1 (e ▸ hx)
      rw [List.filter_cons_of_neg fun q => hzx (hu z List.mem_cons_self q)]
      exact ih hx hz.2 fun y hy => hu y (List.mem_cons_of_mem _ hy)
theorem Ok.nodup : ∀ {xs : List Ent} {nx : Int}, Ok xs nx → xs.Nodup
  | [], _, _ => List.nodup_nil
  | x :: r, _, h => List.nodup_cons.mpr ⟨fun hx => by have := h.1 x hx; omega, Ok.nodup h.2.2.2⟩
theorem fm_sub {T A r : Int} (hr : 0 ≤ r) : (A.fmod r - T.fmod r).fmod r = (A - T) % r := by
  rw [Int.fmod_eq_emod_of_nonneg _ hr, Int.fmod_eq_emod_of_nonneg _ hr, Int.fmod_eq_emod_of_nonneg _ hr]
  exact (Int.sub_emod A T r).symm
theorem ring_in {r : Int} (hr : r = 256 ∨ r = 4294967296) : 90 < r := by
  rcases hr with h | h <;> (rw [h]; decide)
theorem atMost_yes {T A r : Int} (hr : r = 256 ∨ r = 4294967296) (h1 : T ≤ A) (h2 : A ≤ T + 45) : atMost (T.fmod r) (A.fmod r) r = true := by
  have h3 := ring_in hr
  clear hr
  unfold atMost
  rw [fm_sub (by omega), Int.emod_eq_of_lt (by omega) (by omega)]
  by_cases e : T = A
  · rw [e, decide_eq_true rfl, Bool.true_or]
  · rw [decide_eq_true (show 0 < A - T by omega), decide_eq_true (show 2 * (A - T) < r by omega), Bool.and_true, Bool.or_true]
theorem atMost_no {T A r : Int} (hr : r = 256 ∨ r = 4294967296) (h1 : A < T) (h2 : T ≤ A + 45) : atMost (T.fmod r) (A.fmod r) r = false := by
  have h3 := ring_in hr
  clear hr
  have h4 : (A - T) % r = A - T + r := by rw [← Int.add_emod_right, Int.emod_eq_of_lt (by omega) (by omega)]
  unfold atMost
  rw [fm_sub (by omega), h4, decide_eq_false (show ¬ 2 * (A - T + r) < r by omega), Bool.and_false, Bool.or_false]
  refine decide_eq_false fun e => ?_
  have := fm_sub (T := T) (A := A) (r := r) (by omega)
  rw [e, Int.sub_self, h4, Int.zero_fmod] at this
  omega
theorem last_of {xs : List Ent} {nx : Int} {k : Nat} (h : Ok xs nx) (h1 : 1 ≤ k) (h2 : k ≤ xs.length) : ∃ z, (xs.take k)[k - 1]? = some z ∧ z ∈ xs.take k ∧ ∀ x ∈ xs.take k, x.e ≤ z.e := by
  have hk : k - 1 < (xs.take k).length := by rw [List.length_take]; omega
  refine ⟨(xs.take k)[k - 1], List.getElem?_eq_getElem hk, List.getElem_mem hk, fun x hx => ?_⟩
  have hz : (xs.take k)[k - 1] = xs[k - 1]'(by omega) := List.getElem_take
  have hs : xs.take k = xs.take (k - 1) ++ [xs[k - 1]'(by omega)] := by
    have := List.take_add_one (l := xs) (i := k - 1)
    rw [show k - 1 + 1 = k by omega, List.getElem?_eq_getElem (by omega)] at this
    simpa using this
  rw [hz]
  rw [hs] at hx
  rcases List.mem_append.mp hx with hx | hx
  · have hd : xs[k - 1]'(by omega) ∈ xs.drop (k - 1) := by
      rw [List.drop_eq_getElem_cons (by omega)]
      exact List.mem_cons_self
    exact Int.le_of_lt (h.lt x hx _ hd)
  · rw [List.mem_singleton.mp hx]
    exact Int.le_refl _
theorem ack_cases {xs : List Ent} {nx : Int} {k : Nat} {T tta ring : Int} {oe : Option Int} {z : Ent} (h : Ok xs nx) (hl : xs.length ≤ 6) (hr : ring = 256 ∨ ring = 4294967296) (ht : Timed xs (some T) oe tta ring)
    (hz : z ∈ xs.take k) (hm : ∀ x ∈ xs.take k, x.e ≤ z.e) :
    oe = some (T.fmod ring) ∧
    ((∃ x, x.s = tta ∧ x.e = T ∧ (xs.take k).filter (fun y => isT (some T) y && !y.g) = [x] ∧ (xs.take k).filter (isT (some T)) = [x] ∧ atMost (T.fmod ring) (z.e.fmod ring) ring = true) ∨
     ((xs.take k).filter (fun y => isT (some T) y && !y.g) = [] ∧ (xs.take k).filter (isT (some T)) = [] ∧ atMost (T.fmod ring) (z.e.fmod ring) ring = false ∧ Timed (xs.drop k) (some T) oe tta ring)) := by
  obtain ⟨he, x, hx, hxe, hxg, hxs⟩ := ht
  refine ⟨he, ?_⟩
  have nz := h.near (n := 5) hl z (List.mem_of_mem_take hz)
  have nx' := h.near (n := 5) hl x hx
  have hx2 : x ∈ xs.take k ++ xs.drop k := by rw [List.take_append_drop]; exact hx
  have hnd : (xs.take k).Nodup := List.Nodup.sublist (List.take_sublist _ _) h.nodup
  rcases List.mem_append.mp hx2 with hx' | hx'
  · refine .inl ⟨x, hxs, hxe, filter_one hx' (by simp [isT, hxe, hxg]) hnd fun y hy hp => ?_, filter_one hx' (by simp [isT, hxe]) hnd fun y hy hp => ?_, ?_⟩
    · have : y.e = T := by simp only [isT, Bool.and_eq_true, decide_eq_true_eq] at hp; exact hp.1
      exact h.inj y (List.mem_of_mem_take hy) x hx (this.trans hxe.symm)
    · have : y.e = T := by simpa [isT] using hp
      exact h.inj y (List.mem_of_mem_take hy) x hx (this.trans hxe.symm)
    · have := hm x hx'
      exact atMost_yes hr (by omega) (by omega)
  · have hlt := h.lt z hz x hx'
    have hno : ∀ y ∈ xs.take k, ¬ y.e = T := fun y hy e => by
      have := h.lt y hy x hx'
      omega
    refine .inr ⟨List.filter_eq_nil_iff.mpr fun y hy => by simp [isT, hno y hy], List.filter_eq_nil_iff.mpr fun y hy => by simp [isT, hno y hy], atMost_no hr (by omega) (by omega), he, x, hx', hxe, hxg, hxs⟩
theorem none_cases (xs : List Ent) : xs.filter (fun y => isT none y && !y.g) = [] ∧ xs.filter (isT none) = [] :=
  ⟨List.filter_eq_nil_iff.mpr fun y hy => by simp [isT], List.filter_eq_nil_iff.mpr fun y hy => by simp [isT]⟩
theorem lines98 : True := by
  k_with "call ref" => (k_here; (with_reducible show wpAny _ _ (call (Value.ref 84) _) _ _ _); k_dflt (refine' con_5 (back_con _ _ _ _ _ _ _ _ _ _ _ _ _ _ ?hw9) ?Sw9 ?_; walk_at "r s"; (case hw9 => k_asm); walk_at "r c"); walk_at "r p5")
  k_with "subscriptTail Name Constant ref str" => (k_here; k_dflt (refine' kda_item (knd := PySem.strKind _ _) ?kNw9 ?kMw9 ?kDw9 (strKind_is _ _ _ _) ?klw9 ?_ ?ksw9 ?kgw9; (case kNw9 => k_asm); (case kMw9 => k_mem); (case kDw9 => k_asm); (case klw9 => rfl); (case ksw9 => with_unfolding_all rfl); (case kgw9 => intro _; with_unfolding_all rfl)); (try dsimp only))
  k_with "setItem ref str" => (k_here; k_dflt (refine' kda_set (knd := PySem.strKind _ _) ?Fw9 ?Nw9 ?Uw9 ?dw9 (strKind_is _ _ _ _) ?zw9 ?_; (case Fw9 => k_asm); (case Nw9 => k_asm); (case Uw9 => k_updF); (case dw9 => k_asm); (case zw9 => kob_size)); intro h' o' F' N' hd'; (try kob_lit); (try dsimp only at N'))
  trivial
set_option maxHeartbeats 8000000 in
theorem llate_con (w : World) (mean : ExcName → Option Value) (mg mb : Str → Option Value) (c d own u : Addr) (T : CT) (e : Addr) (my tr : Int) (te : Value) (oe : Option Int) (tta : Int)
   (o : Obj) (nx : Int) (tn : Tok) (tm : Value) (tt : Tok) (xs : List Ent) (n2 : Nat) (tk1 : Tok)
   (ho : OwnIs w o u nx tn tm tr tt) (hte : IsOpt te oe)
   (h5 : @Ne Nat c d) (h6 : @Ne Nat c own) (h7 : @Ne Nat c u) (h8 : @Ne Nat d own) (h9 : @Ne Nat d u) (h10 : @Ne Nat own u)
   (hnd : (xs.map (·.a)).Nodup) (hoff : OwnOff (xs.map Ent.cell) [c, d, own, u]) (hlen : xs.length ≤ 100) :
   Con w mean mg mb 222 2 [.ref c, .ref own, .int my tk1] ((c, instObj 108 d) :: (d, clkD w T e my tr te tta) :: (own, o) :: (u, listOf (refs xs).toArray n2) :: xs.map Ent.cell)
     (fun v news' => ∃ T' o' tn' tt', v = .bool true ∧ OwnIs w o' u nx tn' .none (tr + 1) tt' ∧
        news' = (c, instObj 108 d) :: (d, clkD w T' e my (tr + 1) .none tta) :: (own, o') :: (u, listOf (refs xs).toArray n2) :: (xs.map mark).map Ent.cell) := by
  unfold Con
  k_fill
  w_top off
  intro dp un gd cn cs x ccd cl outer A₀ base h₀ L m s rest Q E B F X N NR off TT hk hdp hun hret
  dsimp only [OwnIs] at ho
  refine wpAny_call ?_
  k_dflt (walk_at "r enter")
  intro g' L' h' FG' F' N' B' X' T' S'
  (try dsimp only)
  (try k_fold)
  walk1
  refine wpAny_execs_cons ?_
  with_reducible rename News _ _ _ _ => N1
  refine' mark_loop (xs := xs) (others := [(c, instObj 108 d), (d, clkD w T e my tr te tta), (own, o), (u, listOf (refs xs).toArray n2)]) (ax := u) (nn := n2) ?hx ?hp ?hh ?F ?N ?hax hnd ?hoff ?hi ?turn ?h ?hs ?hE
  case hx => exact rfl
  case hp => exact rfl
  case hh => exact rfl
  case F => k_asm
  case N =>
    intro p hp
    refine N1 p ?_
    rcases List.mem_append.mp hp with hp | hp
    · exact .tail _ (.tail _ (.tail _ (.tail _ hp)))
    · simp only [List.mem_cons, List.not_mem_nil, or_false] at hp ⊢
      rcases hp with rfl | rfl | rfl | rfl <;> simp
  case hax => simp
  case hoff =>
    intro y hy q hq
    have h := hoff y.cell (List.mem_map_of_mem hy) q.1 (by simp only [List.mem_cons, List.not_mem_nil, or_false] at hq; rcases hq with rfl | rfl | rfl | rfl <;> simp)
    exact Ne.symm h
  case hi =>
    k_steps
  case turn =>
    intro i hi h tk m₁ F1 hobj
    clear N1
    have N1 := News.nil (h₀ := g') (L := L') (h := h)
    k_steps
    refine ki_setAt (n := xs[i].n) hobj (by decide) (by decide) (by simp) ?_
    dsimp only
    refine wpAny_execs_nil ?_
    exact ⟨rfl, _, rfl⟩
  case h =>
    intro u1 h1 tk1 F1 N2
    clear N1
    have offT : OwnOff ((xs.map mark).map Ent.cell) [c, d, own, u] := by
      intro p hp b hb
      obtain ⟨y, hy, rfl⟩ := List.mem_map.mp hp
      obtain ⟨z, hz, rfl⟩ := List.mem_map.mp hy
      exact hoff z.cell (List.mem_map_of_mem hz) b hb
    have N1 : News g' L' h1 ((c, instObj 108 d) :: (d, clkD w T e my tr te tta) :: (own, o) :: (u, listOf (refs xs).toArray n2) :: (xs.map mark).map Ent.cell) := by
      intro p hp
      refine N2 p ?_
      simp only [List.mem_cons] at hp
      simp only [List.mem_append, List.mem_cons, List.not_mem_nil, or_false]
      rcases hp with rfl | rfl | rfl | rfl | hp
      · simp
      · simp
      · simp
      · simp
      · refine .inl ?_
        rw [List.map_map] at hp
        exact hp
    clear N2
    generalize (xs.map mark).map Ent.cell = Tl at N1 offT hret
    k_steps
    with_reducible rename IsOpt _ none => io
    with_reducible rename News _ _ _ _ => kk
    generalize hte9 : (none : Option Int) = on at io
    cases io
    case some => cases hte9
    case none =>
      refine' hret _ _ _ _ ⟨⟨_, _, _, _, _, _, _, _⟩, _, _, _, ?v, ?i, rfl⟩ ?f ?n ?k
      case f => k_asm
      case n => exact kst_newsOf kk (by kst_inAny)
      case k => k_asm
      case v => exact congrArg Value.bool (beq_self_eq_true _)
      case i => assumption
  case hs => intro _; rfl
  case hE => passes_own
theorem lines99 : True := by
  k_with "r enterC" => (refine' code_defC ?k1w9 ?k2w9 ?k3w9 ?k4w9 ?k5w9 ?kAw9 ?kFw9 ?kKw9 ?k6w9 ?k7w9 ?k8w9 ?k9w9 ?kBw9 ?kDw9 ?_ ?c2w9 ?c3w9 ?c4w9; (case kAw9 => exact rfl); (case kFw9 => exact rfl); (case kKw9 => assumption); (case k1w9 => k_asm); (case k2w9 => k_asm); (case k3w9 => k_asm); (case k4w9 => k_asm); (case k5w9 => k_asm); (case k6w9 => k_is); (case k7w9 => k_is); (case k8w9 => ktr_room); (case k9w9 => exact BindsTo.of_eq rfl); (case kBw9 => exact rfl); (case kDw9 => decide +kernel); (case c2w9 => exact rfl); (case c3w9 => exact rfl); (case c4w9 => exact rfl); k_whole)
  k_with "call builtin:len" => (k_here; (with_reducible show wpAny _ _ (call (Value.builtin "len") [Value.ref _]) _ _ _); k_dflt (refine' kst_len ?k1w9 ?k2w9 (refs_len _) ?k4w9 ?_; (case k1w9 => k_asm); (case k2w9 => k_memK); (case k4w9 => omega); k_whole))
  k_with "subscriptTail Name Slice ref ref" => (k_here; (with_reducible show wpAny _ _ (subscriptTail _ (PySem.Expr.Slice _ _ none _) (Value.ref _) (Value.ref _)) _ _ _); k_dflt (first
    | (refine' cutTo ?Fw9 ?Nw9 ?Mw9 ?yw9 ?zw9 ?_ ?sw9 ?tw9; (case Fw9 => k_asm); (case Nw9 => k_asm); (case Mw9 => k_mem); (case yw9 => omega); (case zw9 => omega); (case sw9 => with_unfolding_all rfl); (case tw9 => kmk_pure))
    | (refine' cutFrom ?Fw9 ?Nw9 ?Mw9 ?yw9 ?zw9 ?_ ?sw9 ?tw9; (case Fw9 => k_asm); (case Nw9 => k_asm); (case Mw9 => k_mem); (case yw9 => omega); (case zw9 => omega); (case sw9 => with_unfolding_all rfl); (case tw9 => kmk_pure))); intro D' h' F' N' l1; (try k_lt l1); (try k_sweep))
  k_with "exec Assign cons ListComp" => (k_here; refine stop_here ?_)
  k_with "eval ListComp" => (k_here; refine stop_here ?_)
  trivial
open PyProof.Rows.LCg
theorem neg_one (n : Nat) : ((-1 : Int) + (n : Int)).toNat = n - 1 := by
  rw [Int.add_comm]
  exact Int.toNat_sub n 1
theorem lastRef {prog : Program} {w : World} {A : Around} {E : Value → Shared → Prop} {s : Shared} {h₀ : Heap} {L l : Addr} {news : Led} {value slice : PySem.Expr} {zs : List Ent} {n : Nat} {u : Tok} {z : Ent} {Q : Value → Shared → Prop} (N : News h₀ L s.heap news) (hm : (l, listOf (refs zs).toArray n) ∈ news)
    (h0 : 0 < zs.length) (h6 : zs.length ≤ 6) (hx : zs[zs.length - 1]? = some z) (h : Q (.ref z.a) s)
    (hs : subscripted slice false (.ref l) (.int (-1) u) = operate [.ref l, .int (-1) u] (getItem (.ref l) (.int (-1) u)) := by with_unfolding_all rfl) :
    wpAny (model prog w) A (subscriptTail value slice (.ref l) (.int (-1) u)) Q E s :=
  have hl : s.heap.IsList l (refs zs).toArray := ⟨_, (N _ hm).1, rfl, n, rfl⟩
  have hz : (refs zs).toArray.size = zs.length := by rw [List.size_toArray, refs_len]
  tail_any hl.typeIs slot_list_getitem.lookup (wpAny_getItem_list_neg hl (by decide) (by omega) (by decide) (by
    rw [hz, neg_one]
    simp [refs, hx]) h) hs
theorem lst_nil : lst ([] : List Value) = listOf ([] : List Value).toArray 0 := rfl
theorem lst_one (v : Value) : lst [v] = listOf [v].toArray 1 := rfl
theorem ints_one {vs : List Value} {n : Int} (h : IntsAre vs [n]) : ∃ t, vs = [Value.int n t] := by
  obtain ⟨t, vs', rfl, h'⟩ := IntsAre.cons_inv h
  exact ⟨t, by rw [IntsAre.nil_inv h']⟩
theorem exI {d n : Int} (_ : d < n) : ∃ k, k = d := ⟨_, rfl⟩
theorem lines100 : True := by
  k_with "subscriptTail Name UnaryOp ref int" => (k_here; k_dflt (refine' lastRef ?kNw9 ?kMw9 ?k0w9 ?k6w9 ?kxw9 ?_ ?ksw9; (case kNw9 => k_asm); (case kMw9 => k_mem); (case k0w9 => assumption); (case k6w9 => assumption); (case kxw9 => assumption); (case ksw9 => with_unfolding_all rfl)))
  k_with "call ref" => (k_here; (with_reducible show wpAny _ _ (call (Value.ref 77) _) _ _ _); k_dflt (refine' con_a (acked_con _ _ _ _ _ _ _ _ _ _ _ _ _ _ _ _ _ _ _ _ _ _ _ _ _ ?hw9 _ _ _ _ _ _ _ _ _ _) ?Sw9 ?_; walk_at "r s"; (case hw9 => k_asm); iterate 10 (walk_at "r c")); intro v9 T9 te9 oe9 TE9 m89 s49 ms9 h9 tk9 io9 qA9 F9 N9; with_reducible rename ∀ (v : Value) (oe' : Option Int), AckPost _ _ _ _ _ v oe' → _ => hA9; (have hA8 := hA9 _ _ qA9); clear qA9; obtain ⟨e9, g9⟩ := hA8; subst g9; (first | subst e9 | (obtain ⟨t9, e9⟩ := e9; subst e9)); walk_at "r fin")
  trivial
theorem isT_hit {y : Ent} {x : Int} (h : y.e = x) : isT (some x) y = true := by simp [isT, h]
theorem isT_miss {y : Ent} {x : Int} (h : y.e ≠ x) : isT (some x) y = false := by simp [isT, h]
theorem lines101 : True := by
  k_with "subscriptTail Name Constant ref int" => (k_here; k_dflt (refine' itemLit ?kNw9 ?kMw9 ?k0w9 ?khw9 ?kxw9 ?_ ?ksw9; (case kNw9 => k_asm); (case kMw9 => ((repeat' (refine' List.Mem.tail _ ?_)); assumption)); (case k0w9 => decide); (case khw9 => decide); (case kxw9 => with_unfolding_all rfl); (case ksw9 => with_unfolding_all rfl); k_whole))
  trivial
theorem neNil0 {prog : Program} {w : World} {A : Around} {E : Value → Shared → Prop} {s : Shared} {h₀ : Heap} {L l : Addr} {news : Led} {Q : Value → Shared → Prop} {b : Addr} {n n2 : Nat} (N : News h₀ L s.heap news) (hm : (l, listOf ([] : List Value).toArray n) ∈ news) (hb : (b, listOf ([] : List Value).toArray n2) ∈ news) (hu : A.units < cLine)
    (h : Q (.bool false) s) : wpAny (model prog w) A (compareOp .NotEq (.ref l) (.ref b)) Q E s := neNil (vs := []) N hm hb hu h
theorem neNil1 {prog : Program} {w : World} {A : Around} {E : Value → Shared → Prop} {s : Shared} {h₀ : Heap} {L l : Addr} {news : Led} {Q : Value → Shared → Prop} {b : Addr} {v : Value} {n n2 : Nat} (N : News h₀ L s.heap news) (hm : (l, listOf [v].toArray n) ∈ news) (hb : (b, listOf ([] : List Value).toArray n2) ∈ news) (hu : A.units < cLine)
    (h : Q (.bool true) s) : wpAny (model prog w) A (compareOp .NotEq (.ref l) (.ref b)) Q E s := neNil (vs := [v]) N hm hb hu h
theorem allLt_mem {d : Addr} {l : Led} (h : AllLt d l) : ∀ p ∈ l, @LT.lt Nat _ p.1 d := by
  induction l with
  | nil => intro p hp; cases hp
  | cons q r ih =>
    intro p hp
    have h' : @LT.lt Nat _ q.1 d ∧ AllLt d r := h
    rcases List.mem_cons.mp hp with e | hp
    · rw [e]; exact h'.1
    · exact ih h'.2 p hp
theorem lines102 : True := by
  k_with "compareOp NotEq ref ref" => (k_here; k_dflt (refine' neNil0 ?k1w9 ?k2w9 ?k3w9 ?k4w9 ?_; (case k1w9 => k_asm); (case k2w9 => k_mem); (case k3w9 => k_mem); (case k4w9 => ktr_units); k_whole))
  k_with "compareOp NotEq ref ref" => (k_here; k_dflt (refine' neNil1 ?k1w9 ?k2w9 ?k3w9 ?k4w9 ?_; (case k1w9 => k_asm); (case k2w9 => k_mem); (case k3w9 => k_mem); (case k4w9 => ktr_units); k_whole))
  trivial
theorem ack_split {xs : List Ent} {nx : Int} {k : Nat} {tta ring now : Int} {otm oe : Option Int} {z : Ent} (h : Ok xs nx) (hl : xs.length ≤ 6) (hr : ring = 256 ∨ ring = 4294967296) (ht : Timed xs otm oe tta ring) (hz : z ∈ xs.take k) (hm : ∀ x ∈ xs.take k, x.e ≤ z.e) :
    (∃ x, x.s = tta ∧ (xs.take k).filter (fun y => isT otm y && !y.g) = [x] ∧ (xs.take k).filter (isT otm) = [x] ∧ ∀ v oe', AckPost oe (z.e.fmod ring) ring now tta v oe' → (∃ t, v = .int (now - tta) t) ∧ oe' = none) ∨
    ((xs.take k).filter (fun y => isT otm y && !y.g) = [] ∧ (xs.take k).filter (isT otm) = [] ∧ (∀ v oe', AckPost oe (z.e.fmod ring) ring now tta v oe' → v = .none ∧ oe' = oe) ∧ Timed (xs.drop k) otm oe tta ring) := by
  cases otm with
  | none =>
    have hoe : oe = none := ht
    subst hoe
    exact .inr ⟨(none_cases _).1, (none_cases _).2, fun v oe' h => h, rfl⟩
  | some T =>
    obtain ⟨hoe, ⟨x9, hx1, hx2, hx3, hx4, hx5⟩ | ⟨hx3, hx4, hx5, hx6⟩⟩ := ack_cases h hl hr ht hz hm
    · subst hoe
      refine .inl ⟨x9, hx1, hx3, hx4, fun v oe' h => ?_⟩
      unfold AckPost at h
      dsimp only at h
      simp only [hx5, if_true] at h
      exact h
    · subst hoe
      refine .inr ⟨hx3, hx4, fun v oe' h => ?_, hx6⟩
      unfold AckPost at h
      dsimp only at h
      simp only [hx5, Bool.false_eq_true, if_false] at h
      exact h
set_option maxHeartbeats 8000000 in
theorem lacked_call (w : World) (mean : ExcName → Option Value) (mg mb : Str → Option Value) (src c d e ed own u : Addr) (a b : Int) (ta tb n : Nat) (T : CT) (my tr : Int) (te : Value) (oe : Option Int) (tta : Int) (TE : ET) (mt m8 s4 ms : Int)
   (o : Obj) (nx : Int) (tn : Tok) (tm : Value) (otm : Option Int) (tt : Tok) (xs : List Ent) (n2 : Nat) (now ring : Int) (tk1 tk2 : Tok) (Tl : Led)
   (ho : OwnIs w o u nx tn tm tr tt) (hte : IsOpt te oe) (htm : IsOpt tm otm)
   (a1 : @LT.lt Nat _ src e) (a2 : @LT.lt Nat _ src ed) (a3 : @LT.lt Nat _ e c) (a4 : @LT.lt Nat _ ed c) (a5 : @LT.lt Nat _ e d) (a6 : @LT.lt Nat _ ed d) (a7 : @LT.lt Nat _ c own) (a8 : @LT.lt Nat _ d own) (a9 : @LT.lt Nat _ c u) (a10 : @LT.lt Nat _ d u)
   (a11 : @Ne Nat e ed) (a12 : @Ne Nat c d) (a13 : @Ne Nat own u)
   (ha : 0 ≤ a) (hb0 : 0 ≤ b) (hb1 : b < 2147483647) (hr : ring = 256 ∨ ring = 4294967296) (hl0 : 0 < xs.length) (hl6 : xs.length ≤ 6) (hOk : Ok xs nx) (hTm : Timed xs otm oe tta ring) (hn0 : 0 ≤ now - tta) (hn1 : now - tta < 4294967296)
   (hTl : ∀ x ∈ xs, x.cell ∈ Tl) (offT : OwnOff Tl [src, c, d, e, ed, own, u])
   (dp un : Nat) (gd : Option (List Code)) (cn : Str) (cs : Scope) (x : Addr) (ccd : Value) (cl : List (Str × Addr)) (outer : List Env) (A₀ : Around) (base h₀ : Heap) (L : Addr) (m : Str → Option Value) (s : Shared) (Q E : Value → Shared → Prop)
   (B : Below A₀ base outer h₀) (F : Fr h₀ L s.heap m) (X : (hd.heap_39 w.params).In h₀)
   (N : News h₀ L s.heap ((src, listOf #[.int a ta, .int b tb] n) :: (c, instObj 108 d) :: (d, clkD w T e my tr te tta) :: (e, instObj 164 ed) :: (ed, estD w TE mt m8 s4 ms) :: (own, o) :: (u, listOf (refs xs).toArray n2) :: Tl))
   (TT : Top hd.view_39 (looseW hd.view_39 []) mean mg mb h₀) (hk : cs.kind = .function) (hdp : dp + 5 < recursionLimit) (hun : un + 8 * 5 < cLine)
   (hret : ∀ a' ta' b' tb' n' T' te' oe' TE' m8' s4' ms' o' u' tn' tm' otm' tt' k h' tk', 0 ≤ a' → 0 ≤ b' → b' < 2147483647 → 1 ≤ k → k ≤ xs.length → IsOpt te' oe' → IsOpt tm' otm' → OwnIs w o' u' nx tn' tm' 0 tt' → Timed (xs.drop k) otm' oe' tta ring →
      (@LT.lt Nat _ src u' ∧ @LT.lt Nat _ c u' ∧ @LT.lt Nat _ d u' ∧ @LT.lt Nat _ e u' ∧ @LT.lt Nat _ ed u' ∧ @LT.lt Nat _ own u') → OwnOff Tl [u'] → Fr h₀ L h' m →
      News h₀ L h' ((src, listOf #[.int a' ta', .int b' tb'] n') :: (c, instObj 108 d) :: (d, clkD w T' e my 0 te' tta) :: (e, instObj 164 ed) :: (ed, estD w TE' mt m8' s4' ms') :: (own, o') :: (u', listOf (refs (xs.drop k)).toArray 0) :: Tl) →
      Q (.bool true) { s with heap := h', toks := tk' }) :
   wpAny (model PySem.Challenge.rw_nu0123_01.row.prog w) (ktrTop dp un gd cn cs L x ccd cl outer) (call (.ref 215) [.ref src, .ref c, .ref own, .int now tk1, .int ring tk2]) Q E s := by
  revert X
  k_fill
  w_top off
  intro X
  dsimp only [OwnIs] at ho
  have b1 : @LT.lt Nat _ src c := Nat.lt_trans a1 a3
  have b2 : @LT.lt Nat _ src d := Nat.lt_trans a1 a5
  have b3 : @LT.lt Nat _ src own := Nat.lt_trans b1 a7
  have b4 : @LT.lt Nat _ src u := Nat.lt_trans b1 a9
  have b5 : @LT.lt Nat _ e own := Nat.lt_trans a3 a7
  have b6 : @LT.lt Nat _ e u := Nat.lt_trans a3 a9
  have b7 : @LT.lt Nat _ ed own := Nat.lt_trans a4 a7
  have b8 : @LT.lt Nat _ ed u := Nat.lt_trans a4 a9
  refine wpAny_call ?_
  k_dflt (walk_at "r enterC")
  intro g' L' h' tk' cells' FG' F' N' Y' B' X' T' l1
  (try k_lt l1)
  k_cells Y'
  (try simp only [List.cons_append, List.nil_append] at N')
  (try dsimp only)
  (try k_fold)
  k_steps
  refine stop_on ?_
  with_reducible rename News _ _ _ _ => N1
  with_reducible rename Fr _ _ _ _ => F1
  with_reducible rename _ < ((xs.length : Nat) : Int) => hd8
  obtain ⟨dd, hdd⟩ := exI hd8
  subst hdd
  generalize hkk : (1 + dd).toNat = kk at N1
  have hk1 : 1 ≤ kk := by clear a11 a12 a13 hr; omega
  have hk2 : kk ≤ xs.length := by clear a11 a12 a13 hr; omega
  obtain ⟨z, hz1, hz2, hz3⟩ := last_of hOk hk1 hk2
  have hzl : (xs.take kk)[(xs.take kk).length - 1]? = some z := by rw [List.length_take, Nat.min_eq_left hk2]; exact hz1
  have hzn : 0 < (xs.take kk).length := by rw [List.length_take, Nat.min_eq_left hk2]; exact hk1
  have hzm : (xs.take kk).length ≤ 6 := by rw [List.length_take, Nat.min_eq_left hk2]; exact Nat.le_trans hk2 hl6
  have hzc : (z.a, listOf #[.int z.e z.te, .int z.s z.ts, .bool z.g] z.n) ∈ Tl := hTl z (List.mem_of_mem_take hz2)
  have hr0 : 0 < ring := by rcases hr with h | h <;> (rw [h]; decide)
  have hr1 : ring ≤ 4294967296 := by rcases hr with h | h <;> (rw [h]; decide)
  have hTd : ∀ x ∈ xs.take kk, x.cell ∈ Tl := fun x hx => hTl x (List.mem_of_mem_take hx)
  have hAC := ack_split (now := now) hOk hl6 hr hTm hz2 hz3
  clear hr
  refine' comp3_assign (xs := xs.take kk) (fun y => isT otm y && !y.g) (fun y => now - y.s) ?c1 ?c2 ?c3 ?c4 ?c5 ?c6 ?c7 ?c8 ?c9 ?c10 ?c11 ?c12 ?c13 ?c14 ?c15 ?c16 F1 N1 ?hax ?hxs ?hi ?hs ?ht ?he ?h
  case c1 => exact rfl
  case c2 => with_unfolding_all rfl
  case c3 => exact rfl
  case c4 => exact rfl
  case c5 => with_unfolding_all rfl
  case c6 => decide
  case c7 => decide
  case c8 => exact rfl
  case c9 => exact rfl
  case c10 => exact rfl
  case c11 => exact rfl
  case c12 => decide
  case c13 => decide
  case c14 => decide
  case c15 => exact rfl
  case c16 => exact Nat.le_trans hzm (by decide)
  case hax => k_mem
  case hxs => intro y hy; have := hTd y hy; simp only [List.mem_cons, this, or_true]
  case hs => intro _; rfl
  case hi =>
    k_steps
  case ht =>
    intro y hy C oC m₂ h tk E' ns e1 e2 e3 F2 N2
    clear N1 F1
    cases htm with
    | none => k_steps
    | some =>
      k_steps
      all_goals first
        | (rw [isT_miss (by assumption)]; rfl)
        | (rw [isT_hit (by assumption), show y.g = true by assumption]; rfl)
        | (rw [isT_hit (by assumption), show y.g = false by assumption]; rfl)
  case he =>
    intro y hy hp C oC m₂ h tk E' ns e1 e2 e3 F2 N2
    clear N1 F1
    k_steps
  case h =>
    intro D h2 tk2 ys F2 N2 lD hys
    clear N1 F1
    (try k_lt lD)
    k_steps
    refine stop_on ?_
    with_reducible rename News _ _ _ _ => N1
    with_reducible rename Fr _ _ _ _ => F1
    refine' comp3_eval (xs := xs.take kk) (isT otm) (fun y => y.e) ?c5 ?c6 ?c7 ?c8 ?c9 ?c10 ?c11 ?c12 ?c13 ?c14 ?c15 ?c16 F1 N1 ?hax ?hxs ?hi ?hs ?ht ?he ?h
    case c5 => with_unfolding_all rfl
    case c6 => decide
    case c7 => decide
    case c8 => exact rfl
    case c9 => exact rfl
    case c10 => exact rfl
    case c11 => exact rfl
    case c12 => decide
    case c13 => decide
    case c14 => decide
    case c15 => exact rfl
    case c16 => exact Nat.le_trans hzm (by decide)
    case hax => k_mem
    case hxs => intro y hy; have := hTd y hy; simp only [List.mem_cons, this, or_true]
    case hs => intro _; rfl
    case hi =>
      k_steps
    case ht =>
      intro y hy C oC m₂ h tk E' ns e1 e2 e3 F2 N2
      clear N1 F1
      cases htm with
      | none => k_steps
      | some =>
        k_steps
        all_goals first
          | (rw [isT_miss (by assumption)])
          | (rw [isT_hit (by assumption)])
    case he =>
      intro y hy hp C oC m₂ h tk E' ns e1 e2 e3 F2 N2
      clear N1 F1
      k_steps
    case h =>
      intro D2 h3 tk3 ys2 F3 N3 lD2 hys2
      clear N1 F1; (try clear N2); (try clear F2)
      (try k_lt lD2)
      rcases hAC with ⟨x9, hx1, hx3, hx4, hA⟩ | ⟨hx3, hx4, hA, hx6⟩
      · rw [hx3] at hys
        rw [hx4] at hys2
        obtain ⟨t1, e1⟩ := ints_one hys
        obtain ⟨t2, e2⟩ := ints_one hys2
        subst e1 e2
        rw [lst_one, lst_one] at N3
        k_steps
        have hbq : (now - tta == now - x9.s) = true := by rw [hx1]; exact beq_self_eq_true _
        rw [hbq]
        with_reducible rename News _ _ _ _ => kk3
        refine' hret _ _ _ _ _ _ _ _ _ _ _ _ _ _ _ _ _ _ kk _ _ ?q1 ?q2 ?q3 hk1 hk2 ?q4 ?q5 ?q6 ?q7 ?q8 ?q9 ?q10 ?q11
        case q6 => dsimp only [OwnIs]; k_asm
        case q11 => exact kst_newsOf kk3 (by kst_inAny)
        case q10 => k_asm
        case q4 => assumption
        case q5 => exact IsOpt.none
        case q7 => exact rfl
        case q1 | q2 | q3 => assumption
        case q8 => exact ⟨by simp only [*], by simp only [*], by simp only [*], by simp only [*], by simp only [*], by simp only [*]⟩
        case q9 =>
          intro p hp b hb
          rw [List.mem_singleton.mp hb]
          refine Nat.ne_of_lt (allLt_mem (l := Tl) ?_ p hp)
          simp only [*]
      · rw [hx3] at hys
        rw [hx4] at hys2
        have e1 := IntsAre.nil_inv hys
        have e2 := IntsAre.nil_inv hys2
        subst e1 e2
        rw [lst_nil] at N3
        k_steps
        with_reducible rename News _ _ _ _ => kk3
        refine' hret _ _ _ _ _ _ _ _ _ _ _ _ _ _ _ _ _ _ kk _ _ ?q1 ?q2 ?q3 hk1 hk2 ?q4 ?q5 ?q6 ?q7 ?q8 ?q9 ?q10 ?q11
        case q6 => dsimp only [OwnIs]; k_asm
        case q11 => exact kst_newsOf kk3 (by kst_inAny)
        case q10 => k_asm
        case q4 => assumption
        case q5 => exact htm
        case q7 => exact hx6
        case q1 | q2 | q3 => assumption
        case q8 => exact ⟨by simp only [*], by simp only [*], by simp only [*], by simp only [*], by simp only [*], by simp only [*]⟩
        case q9 =>
          intro p hp b hb
          rw [List.mem_singleton.mp hb]
          refine Nat.ne_of_lt (allLt_mem (l := Tl) ?_ p hp)
          simp only [*]
structure LawS where
  a : Int
  ta : Tok
  b : Int
  tb : Tok
  n : Nat
  T : CT
  tr : Int
  te : Value
  oe : Option Int
  tta : Int
  TE : ET
  m8 : Int
  s4 : Int
  ms : Int
  o : Obj
  u : Addr
  nx : Int
  tn : Tok
  tm : Value
  otm : Option Int
  tt : Tok
  xs : List Ent
  n2 : Nat
noncomputable def LawS.led (S : LawS) (w : World) (src c d e ed own : Addr) (my mt : Int) : Led :=
  (src, listOf #[.int S.a S.ta, .int S.b S.tb] S.n) :: (c, instObj 108 d) :: (d, clkD w S.T e my S.tr S.te S.tta) :: (e, instObj 164 ed) :: (ed, estD w S.TE mt S.m8 S.s4 S.ms) :: (own, S.o) :: (S.u, listOf (refs S.xs).toArray S.n2) :: S.xs.map Ent.cell
structure LawS.Good (S : LawS) (w : World) (src c d e ed own : Addr) (ring now : Int) (j : Nat) : Prop where
  ha : 0 ≤ S.a
  hb0 : 0 ≤ S.b
  hb1 : S.b < 2147483647
  hte : IsOpt S.te S.oe
  htm : IsOpt S.tm S.otm
  ho : OwnIs w S.o S.u S.nx S.tn S.tm S.tr S.tt
  hok : Ok S.xs S.nx
  htim : Timed S.xs S.otm S.oe S.tta ring
  hlen : S.xs.length ≤ 6
  htr0 : 0 ≤ S.tr
  htr1 : S.tr ≤ (j : Int)
  hn0 : 0 ≤ S.tta
  hn1 : S.tta ≤ now
  hn2 : now ≤ 5 + 6 * (j : Int)
  hcu : @LT.lt Nat _ c S.u
  hdu : @LT.lt Nat _ d S.u
  hou : @Ne Nat own S.u
  hnd : (S.xs.map (·.a)).Nodup
  hoff : OwnOff (S.xs.map Ent.cell) [src, c, d, e, ed, own, S.u]
theorem timed_send {xs : List Ent} {otm oe : Option Int} {tta ring tr nx' now : Int} {z : Ent} (h : Timed xs otm oe tta ring) (hz : z.e = nx') (hs : z.s = now) (hg : z.g = false) :
    Timed (xs ++ [z]) (if otm = none ∧ tr = 0 then some nx' else otm) (if oe = none ∧ tr = 0 then some (nx'.fmod ring) else oe) (if oe = none ∧ tr = 0 then now else tta) ring := by
  cases otm with
  | none =>
    have h' : oe = none := h
    subst h'
    by_cases ht : tr = 0
    · simp only [ht, and_self, if_true]
      exact ⟨rfl, z, by simp, hz, hg, hs⟩
    · simp only [ht, and_false, if_false]
      exact rfl
  | some T =>
    obtain ⟨h1, x, hx, h2⟩ := h
    subst h1
    simp only [reduceCtorEq, false_and, if_false]
    exact ⟨rfl, x, List.mem_append_left _ hx, h2⟩
theorem timed_drop1 {xs : List Ent} {tta ring : Int} : Timed xs none none tta ring := rfl
theorem off_snoc {xs : List Ent} {z : Ent} {l : List Addr} (h : OwnOff (xs.map Ent.cell) l) (hz : ∀ b ∈ l, z.a ≠ b) : OwnOff ((xs ++ [z]).map Ent.cell) l := by
  intro p hp b hb
  rw [List.map_append] at hp
  rcases List.mem_append.mp hp with hp | hp
  · exact h p hp b hb
  · rw [List.mem_singleton.mp hp]
    exact hz b hb
theorem nodup_snoc {xs : List Ent} {z : Ent} (h : (xs.map (·.a)).Nodup) (hz : OwnOff (xs.map Ent.cell) [z.a]) : ((xs ++ [z]).map (·.a)).Nodup := by
  rw [List.map_append, List.nodup_append]
  refine ⟨h, by simp, ?_⟩
  intro a ha b hb
  obtain ⟨x, hx, rfl⟩ := List.mem_map.mp ha
  rw [List.mem_singleton.mp hb]
  exact hz x.cell (List.mem_map_of_mem hx) z.a (List.mem_singleton.mpr rfl)
theorem off_drop {xs : List Ent} {l : List Addr} (k : Nat) (h : OwnOff (xs.map Ent.cell) l) : OwnOff ((xs.drop k).map Ent.cell) l := by
  intro p hp
  refine h p ?_
  obtain ⟨x, hx, rfl⟩ := List.mem_map.mp hp
  exact List.mem_map_of_mem (List.mem_of_mem_drop hx)
theorem nodup_drop {xs : List Ent} (k : Nat) (h : (xs.map (·.a)).Nodup) : ((xs.drop k).map (·.a)).Nodup := by
  rw [List.map_drop]
  exact h.sublist (List.drop_sublist k _)
theorem off_mark {xs : List Ent} {l : List Addr} (h : OwnOff (xs.map Ent.cell) l) : OwnOff ((xs.map mark).map Ent.cell) l := by
  intro p hp b hb
  obtain ⟨y, hy, rfl⟩ := List.mem_map.mp hp
  obtain ⟨z, hz, rfl⟩ := List.mem_map.mp hy
  exact h z.cell (List.mem_map_of_mem hz) b hb
theorem nodup_mark {xs : List Ent} (h : (xs.map (·.a)).Nodup) : ((xs.map mark).map (·.a)).Nodup := by
  rw [List.map_map]
  exact h
theorem refs_mark (xs : List Ent) : refs (xs.map mark) = refs xs := by
  unfold refs
  rw [List.map_map]
  rfl
theorem refs_snoc (xs : List Ent) (z : Ent) : refs (xs ++ [z]) = refs xs ++ [Value.ref z.a] := by
  simp [refs]
theorem wpCut {prog : Program} {w : World} {A : Around} {E : Value → Shared → Prop} {s : Shared} {m : Sem Flow} {Q : Flow → Shared → Prop} (P : Shared → Prop) (h1 : wpAny (model prog w) A m (fun f s' => f = .next ∧ P s') E s) (h2 : ∀ s', P s' → Q .next s') : wpAny (model prog w) A m Q E s :=
  wpAny_mono h1 (fun f s' h => h.1 ▸ h2 s' h.2) fun _ _ h => h
noncomputable abbrev lawM (src e c own la : Addr) (ring my mt now : Int) (tr ty tm tn : Tok) (uu : Str → Option Value) : Str → Option Value := fun z =>
  if z = Str.ofString "source" then some (.ref src) else if z = Str.ofString "ring" then some (.int ring tr) else if z = Str.ofString "most_tries" then some (.int my ty) else if z = Str.ofString "most_wait" then some (.int mt tm) else
  if z = Str.ofString "estimate" then some (.ref e) else if z = Str.ofString "clock" then some (.ref c) else if z = Str.ofString "now" then some (.int now tn) else if z = Str.ofString "own" then some (.ref own) else if z = Str.ofString "script" then some (.ref la) else uu z
theorem lawM_of {m : Str → Option Value} {src e c own la : Addr} {ring my mt now : Int} {tr ty tm tn : Tok} (h1 : m (Str.ofString "source") = some (.ref src)) (h2 : m (Str.ofString "ring") = some (.int ring tr)) (h3 : m (Str.ofString "most_tries") = some (.int my ty)) (h4 : m (Str.ofString "most_wait") = some (.int mt tm))
    (h5 : m (Str.ofString "estimate") = some (.ref e)) (h6 : m (Str.ofString "clock") = some (.ref c)) (h7 : m (Str.ofString "now") = some (.int now tn)) (h8 : m (Str.ofString "own") = some (.ref own)) (h9 : m (Str.ofString "script") = some (.ref la)) : m = lawM src e c own la ring my mt now tr ty tm tn m := by
  funext z
  unfold lawM
  (repeat' split) <;> (first | (rename_i h; rw [h]; assumption) | rfl | (subst_vars; assumption))
noncomputable def LawJ (w : World) (src c d e ed own la : Addr) (ring my mt : Int) (tr ty tm : Tok) (xo : Led) (i : Nat) (m₁ : Str → Option Value) (news₁ : Led) : Prop :=
  ∃ (S : LawS) (now : Int) (tn : Tok) (uu : Str → Option Value), m₁ = lawM src e c own la ring my mt now tr ty tm tn uu ∧ news₁ = S.led w src c d e ed own my mt ++ xo ∧ OwnOff xo ((S.led w src c d e ed own my mt).map (·.1)) ∧ S.Good w src c d e ed own ring now i
theorem lawJ_next {w : World} {src c d e ed own la : Addr} {ring my mt now : Int} {tr ty tm tn : Tok} {h₀ h : Heap} {L : Addr} {m uu : Str → Option Value} {i : Nat} (S : LawS) {xo own4 own5 : Led} (h5 : xo ++ own4 = own5) (N : News h₀ L h (S.led w src c d e ed own my mt ++ own5)) (off : OwnOff own5 ((S.led w src c d e ed own my mt).map (·.1)))
    (offx : OwnOff own4 (xo.map (·.1))) (_ : Fr h₀ L h m) (hm : m = lawM src e c own la ring my mt now tr ty tm tn uu) (G : S.Good w src c d e ed own ring now i) :
    News h₀ L h (S.led w src c d e ed own my mt ++ xo ++ own4) ∧ OwnOff own4 ((S.led w src c d e ed own my mt ++ xo).map (·.1)) ∧ LawJ w src c d e ed own la ring my mt tr ty tm xo i m (S.led w src c d e ed own my mt ++ xo) := by
  subst h5
  refine ⟨by rw [List.append_assoc]; exact N, ?_, S, now, tn, uu, hm, rfl, fun p hp => off p (List.mem_append_left _ hp), G⟩
  intro p hp b hb
  rw [List.map_append] at hb
  exact (List.mem_append.mp hb).elim (off p (List.mem_append_right _ hp) b) (offx p hp b)
theorem get2 {a b x : Int} (h0 : 0 ≤ x) (h1 : x < 2) : [a, b].getD x.toNat 0 = a ∨ [a, b].getD x.toNat 0 = b := by
  have : x = 0 ∨ x = 1 := by omega
  rcases this with rfl | rfl
  · exact .inl rfl
  · exact .inr rfl
theorem get3 {a b c x : Int} (h0 : 0 ≤ x) (h1 : x < 3) : [a, b, c].getD x.toNat 0 = a ∨ [a, b, c].getD x.toNat 0 = b ∨ [a, b, c].getD x.toNat 0 = c := by
  have : x = 0 ∨ x = 1 ∨ x = 2 := by omega
  rcases this with rfl | rfl | rfl
  · exact .inl rfl
  · exact .inr (.inl rfl)
  · exact .inr (.inr rfl)
theorem lawJ_start {w : World} {src c d e ed own u la : Addr} {ring my mt : Int} {tr ty tm : Tok} {m : Str → Option Value} {h₀ h : Heap} {L : Addr} {a b : Int} {ta tb tn : Tok} {n n2 : Nat} {T : CT} {TE : ET} {o : Obj} {nx : Int} {tnx tt : Tok} {led xo : Led}
    (F : Fr h₀ L h m) (N : News h₀ L h led) (hm : m = lawM src e c own la ring my mt 5 tr ty tm tn m)
    (q1 : (src, listOf #[.int a ta, .int b tb] n) ∈ led) (q2 : (c, instObj 108 d) ∈ led) (q3 : (d, clkD w T e my 0 .none 0) ∈ led) (q4 : (e, instObj 164 ed) ∈ led) (q5 : (ed, estD w TE mt 0 0 0) ∈ led) (q6 : (own, o) ∈ led)
    (ho : OwnIs w o u nx tnx .none 0 tt) (q7 : (u, listOf #[] n2) ∈ led) (ha : 0 ≤ a) (hb0 : 0 ≤ b) (hb1 : b < 2147483647) (hcu : @LT.lt Nat _ c u) (hdu : @LT.lt Nat _ d u) (hou : @Ne Nat own u) (hxo : OwnOff xo [src, c, d, e, ed, own, u]) (hq : ∀ p ∈ xo, p ∈ led) :
    ∃ news₁, News h₀ L h news₁ ∧ LawJ w src c d e ed own la ring my mt tr ty tm xo 0 m news₁ := by
  refine ⟨_, ?_, ⟨a, ta, b, tb, n, T, 0, .none, none, 0, TE, 0, 0, 0, o, u, nx, tnx, .none, none, tt, [], n2⟩, 5, tn, m, hm, rfl, hxo, ?_⟩
  · intro p hp
    refine N p ?_
    simp only [LawS.led, List.map_nil, List.cons_append, List.nil_append, List.mem_cons] at hp
    rcases hp with rfl | rfl | rfl | rfl | rfl | rfl | rfl | hp
    · exact q1
    · exact q2
    · exact q3
    · exact q4
    · exact q5
    · exact q6
    · exact q7
    · exact hq p hp
  · refine ⟨ha, hb0, hb1, IsOpt.none, IsOpt.none, ho, trivial, rfl, by simp, by simp, by simp, by simp, by simp, by simp, hcu, hdu, hou, by simp, ?_⟩
    intro p hp
    cases hp
noncomputable def LawMid (w : World) (h₀ : Heap) (L : Addr) (m : Str → Option Value) (src c d e ed own : Addr) (ring my mt now : Int) (j : Nat) (own3 : Led) (s s' : Shared) : Prop :=
  ∃ (S : LawS) (h' : Heap) (tk' : Nat), s' = { s with heap := h', toks := tk' } ∧ Fr h₀ L h' m ∧ News h₀ L h' (S.led w src c d e ed own my mt ++ own3) ∧ OwnOff own3 ((S.led w src c d e ed own my mt).map (·.1)) ∧ S.Good w src c d e ed own ring now (j + 1)
theorem lawCut {w : World} {A : Around} {E : Value → Shared → Prop} {s : Shared} {m9 : Sem Flow} {Q : Flow → Shared → Prop} {h₀ : Heap} {L : Addr} {m : Str → Option Value} (F : Fr h₀ L s.heap m) (src c d e ed own : Addr) (ring my mt now : Int) (j : Nat) (own3 : Led)
    (h1 : wpAny (model PySem.Challenge.rw_nu0123_01.row.prog w) A m9 (fun f s' => f = .next ∧ LawMid w h₀ L m src c d e ed own ring my mt now j own3 s s') E s) (h2 : ∀ s', LawMid w h₀ L m src c d e ed own ring my mt now j own3 s s' → Q .next s') : wpAny (model PySem.Challenge.rw_nu0123_01.row.prog w) A m9 Q E s :=
  wpCut _ h1 h2
theorem own_off {own : Led} {src ed e d c own2 u : Addr} (h0 : OwnOff own [src]) (hl : AllLt ed own) (c2 : @LT.lt Nat _ ed e) (c3 : @LT.lt Nat _ e d) (c4 : @LT.lt Nat _ d c) (c5 : @LT.lt Nat _ c own2) (c6 : @LT.lt Nat _ ed u) : OwnOff own [src, c, d, e, ed, own2, u] := by
  intro p hp b hb
  have h1 := allLt_mem hl p hp
  have h2 := h0 p hp src (List.mem_singleton.mpr rfl)
  simp only [List.mem_cons, List.not_mem_nil, or_false] at hb
  rcases hb with rfl | rfl | rfl | rfl | rfl | rfl | rfl
  · exact h2
  all_goals (refine Nat.ne_of_lt ?_; omega)
theorem off_app {a b : Led} {l : List Addr} (h1 : OwnOff a l) (h2 : OwnOff b l) : OwnOff (a ++ b) l := fun p hp => (List.mem_append.mp hp).elim (h1 p) (h2 p)
theorem noE {M : Model} {A : Around} {m : Sem Flow} {Q : Flow → Shared → Prop} {E : Value → Shared → Prop} {s : Shared} (h : wpAny M A m Q (fun _ _ => False) s) : wpAny M A m Q E s :=
  wpAny_mono h (fun _ _ h => h) fun _ _ h => h.elim
theorem exL {h : Heap} {a : Addr} {v : Array Value} (_ : h.IsList a v) : ∃ b, b = a := ⟨a, rfl⟩
theorem boundB {h : Heap} {r : Addr} {b : Int} {t u v : Tok} (R : IsRange h r 0 b 1 t u v) : ∃ bb, bb = b ∧ IsRange h r 0 bb 1 t u v := ⟨b, rfl, R⟩
theorem setSame {m : Str → Option Value} {n : Str} {v : Value} (h : m n = some v) : m = fun z => if z = n then some v else m z := by
  funext z
  by_cases e : z = n
  · rw [e, h, if_pos rfl]
  · rw [if_neg e]
theorem pool_use (w : World) (mean : ExcName → Option Value) (mg mb : Str → Option Value) (l : Addr) (vs : List Value) (ns : List Int) (k : Int) (tk : Tok) (hi : IntsAre vs ns) (hl : ns.length ≤ 63) (h0 : 0 ≤ k) (h1 : k < 2)
   (hlay : PyData.layable0 (.list (ns.map .int)) = true)
   (dp un : Nat) (gd : Option (List Code)) (cn : Str) (cs : Scope) (x : Addr) (ccd : Value) (cl : List (Str × Addr)) (outer : List Env) (A₀ : Around) (base h₀ : Heap) (L : Addr) (m : Str → Option Value) (s : Shared) (tail : Led) (Q E : Value → Shared → Prop)
   (B : Below A₀ base outer h₀) (F : Fr h₀ L s.heap m) (X : (hd.heap_39 w.params).In h₀) (hL : h₀.IsList l vs.toArray) (N : News h₀ L s.heap tail) (T : Top hd.view_39 (looseW hd.view_39 []) mean mg mb h₀) (hk : cs.kind = .function)
   (hdp : dp + 1 < recursionLimit) (hun : un + 8 * 1 < cLine)
   (hret : ∀ p a ta b tb n h' tk', 0 ≤ a → 0 ≤ b → b < 2147483647 → OwnOff tail [p] → Fr h₀ L h' m → News h₀ L h' ((p, listOf #[.int a ta, .int b tb] n) :: tail) → Q (.ref p) { s with heap := h', toks := tk' }) :
   wpAny (model PySem.Challenge.rw_nu0123_01.row.prog w) (ktrTop dp un gd cn cs L x ccd cl outer) (call (.ref 175) [.ref l, .int k tk]) Q E s :=
  pool_con w mean mg mb l vs ns k tk hi hl h0 h1 hlay dp un gd cn cs x ccd cl outer A₀ base h₀ L m s tail Q E B F X hL ⟨N⟩ T hk hdp hun fun p a ta b tb n h' tk' ha hb hb' off F' N' NR' =>
    hret p a ta b tb n h' tk' ha hb hb' off F' fun q hq => (List.mem_cons.mp hq).elim (fun e => N' q (e ▸ List.mem_singleton.mpr rfl)) (NR'.out q)
theorem exLed {h₀ h : Heap} {L : Addr} {src u own c d e ed : Addr} {o1 o2 o3 o4 o5 o6 o7 : Obj} {th D : Addr × Obj} {rest : Led} (_ : News h₀ L h ((src, o1) :: th :: (u, o2) :: (own, o3) :: D :: (c, o4) :: (d, o5) :: (e, o6) :: (ed, o7) :: rest)) :
    (∃ z, z = src) ∧ (∃ z, z = c) ∧ (∃ z, z = d) ∧ (∃ z, z = e) ∧ (∃ z, z = ed) ∧ (∃ z, z = own) ∧ (∃ z, z = u) := ⟨⟨_, rfl⟩, ⟨_, rfl⟩, ⟨_, rfl⟩, ⟨_, rfl⟩, ⟨_, rfl⟩, ⟨_, rfl⟩, ⟨_, rfl⟩⟩
theorem led_news {w : World} {h₀ h : Heap} {L : Addr} {led own4 Tl : Led} (S : LawS) {src c d e ed own : Addr} {my mt : Int} (N : News h₀ L h led)
    (q1 : (src, listOf #[.int S.a S.ta, .int S.b S.tb] S.n) ∈ led) (q2 : (c, instObj 108 d) ∈ led) (q3 : (d, clkD w S.T e my S.tr S.te S.tta) ∈ led) (q4 : (e, instObj 164 ed) ∈ led) (q5 : (ed, estD w S.TE mt S.m8 S.s4 S.ms) ∈ led) (q6 : (own, S.o) ∈ led)
    (q7 : (S.u, listOf (refs S.xs).toArray S.n2) ∈ led) (hTe : S.xs.map Ent.cell ++ own4 = Tl) (qT : ∀ p ∈ Tl, p ∈ led) : News h₀ L h (S.led w src c d e ed own my mt ++ own4) := by
  intro p hp
  refine N p ?_
  simp only [LawS.led, List.cons_append, List.mem_cons] at hp
  rcases hp with rfl | rfl | rfl | rfl | rfl | rfl | rfl | hp
  · exact q1
  · exact q2
  · exact q3
  · exact q4
  · exact q5
  · exact q6
  · exact q7
  · exact qT p (hTe ▸ hp)
theorem exSrc {h₀ h : Heap} {L src : Addr} {a b : Int} {ta tb n : Nat} {rest : Led} (_ : News h₀ L h ((src, listOf #[.int a ta, .int b tb] n) :: rest)) :
    ∃ a' ta' b' tb' n', a' = a ∧ ta' = ta ∧ b' = b ∧ tb' = tb ∧ n' = n := ⟨_, _, _, _, _, rfl, rfl, rfl, rfl, rfl⟩
theorem led_off7 {w : World} {S : LawS} {src c d e ed own : Addr} {my mt : Int} {own5 : Led} (h : OwnOff own5 ((S.led w src c d e ed own my mt).map (·.1))) : OwnOff own5 [src, c, d, e, ed, own, S.u] := by
  intro p hp b hb
  refine h p hp b ?_
  simp only [List.mem_cons, List.not_mem_nil, or_false] at hb
  simp only [LawS.led, List.map_cons, List.mem_cons]
  rcases hb with h | h | h | h | h | h | h
  · exact .inl h
  · exact .inr (.inl h)
  · exact .inr (.inr (.inl h))
  · exact .inr (.inr (.inr (.inl h)))
  · exact .inr (.inr (.inr (.inr (.inl h))))
  · exact .inr (.inr (.inr (.inr (.inr (.inl h)))))
  · exact .inr (.inr (.inr (.inr (.inr (.inr (.inl h))))))
theorem led_offx {w : World} {S : LawS} {src c d e ed own : Addr} {my mt : Int} {own5 : Led} (h : OwnOff own5 ((S.led w src c d e ed own my mt).map (·.1))) {x : Ent} (hx : x ∈ S.xs) : OwnOff own5 [x.a] := by
  intro p hp b hb
  rw [List.mem_singleton.mp hb]
  exact h p hp x.a (.tail _ (.tail _ (.tail _ (.tail _ (.tail _ (.tail _ (.tail _ (List.mem_map.mpr ⟨x.cell, List.mem_map_of_mem hx, rfl⟩))))))))
theorem led_off {w : World} {S : LawS} {src c d e ed own : Addr} {my mt : Int} {own5 : Led} (h7 : OwnOff own5 [src, c, d, e, ed, own, S.u]) (hx : ∀ y ∈ S.xs, OwnOff own5 [y.a]) : OwnOff own5 ((S.led w src c d e ed own my mt).map (·.1)) := by
  intro p hp b hb
  simp only [LawS.led, List.map_cons, List.mem_cons] at hb
  have k := h7 p hp b
  simp only [List.mem_cons, List.not_mem_nil, or_false] at k
  rcases hb with h | h | h | h | h | h | h | h
  · exact k (.inl h)
  · exact k (.inr (.inl h))
  · exact k (.inr (.inr (.inl h)))
  · exact k (.inr (.inr (.inr (.inl h))))
  · exact k (.inr (.inr (.inr (.inr (.inl h)))))
  · exact k (.inr (.inr (.inr (.inr (.inr (.inl h))))))
  · exact k (.inr (.inr (.inr (.inr (.inr (.inr h))))))
  · obtain ⟨q, hq, rfl⟩ := List.mem_map.mp h
    obtain ⟨y, hy, rfl⟩ := List.mem_map.mp hq
    exact hx y hy p hp _ (List.mem_singleton.mpr rfl)
theorem off_u {own5 : Led} {src c d e ed own u u' : Addr} (h : OwnOff own5 [src, c, d, e, ed, own, u]) (h' : OwnOff own5 [u']) : OwnOff own5 [src, c, d, e, ed, own, u'] := by
  intro p hp b hb
  have k := h p hp b
  simp only [List.mem_cons, List.not_mem_nil, or_false] at k hb
  rcases hb with h | h | h | h | h | h | h
  · exact k (.inl h)
  · exact k (.inr (.inl h))
  · exact k (.inr (.inr (.inl h)))
  · exact k (.inr (.inr (.inr (.inl h))))
  · exact k (.inr (.inr (.inr (.inr (.inl h)))))
  · exact k (.inr (.inr (.inr (.inr (.inr (.inl h))))))
  · exact h' p hp b (List.mem_singleton.mpr h)
theorem LawS.Good.step {S : LawS} {w : World} {src c d e ed own : Addr} {ring now dd : Int} {j : Nat} (G : S.Good w src c d e ed own ring now j) (h0 : 0 ≤ dd) (h6 : dd < 6) : S.Good w src c d e ed own ring (now + dd) (j + 1) := by
  obtain ⟨ha, hb0, hb1, hte, htm, ho, hok, htim, hlen, htr0, htr1, hn0, hn1, hn2, hcu, hdu, hou, hnd, hoff⟩ := G
  exact ⟨ha, hb0, hb1, hte, htm, ho, hok, htim, hlen, htr0, by omega, hn0, by omega, by omega, hcu, hdu, hou, hnd, hoff⟩
theorem sent_mid (w : World) (mean : ExcName → Option Value) (mg mb : Str → Option Value) (S : LawS) (src c d e ed own : Addr) (ring my mt now : Int) (j : Nat) (own5 : Led) (tk1 tk2 : Tok)
    (G : S.Good w src c d e ed own ring now j) (h6 : S.xs.length < 6) (hr : ring = 256 ∨ ring = 4294967296) (c1 : @LT.lt Nat _ src ed) (c2 : @LT.lt Nat _ ed e) (c3 : @LT.lt Nat _ e d) (c4 : @LT.lt Nat _ d c) (c5 : @LT.lt Nat _ c own)
    (off5 : OwnOff own5 ((S.led w src c d e ed own my mt).map (·.1)))
    (dp un : Nat) (gd : Option (List Code)) (cn : Str) (cs : Scope) (x : Addr) (ccd : Value) (cl : List (Str × Addr)) (outer : List Env) (A₀ : Around) (base h₀ : Heap) (L : Addr) (m : Str → Option Value) (s : Shared) (Q E : Value → Shared → Prop)
    (B : Below A₀ base outer h₀) (F : Fr h₀ L s.heap m) (X : (hd.heap_39 w.params).In h₀) (N : News h₀ L s.heap (S.led w src c d e ed own my mt ++ own5))
    (TT : Top hd.view_39 (looseW hd.view_39 []) mean mg mb h₀) (hk : cs.kind = .function) (hdp : dp + 2 < recursionLimit) (hun : un + 8 * 2 < cLine)
    (hret : ∀ (S' : LawS) (h' : Heap) (tk' : Nat), S'.Good w src c d e ed own ring now j → OwnOff own5 ((S'.led w src c d e ed own my mt).map (·.1)) → Fr h₀ L h' m → News h₀ L h' (S'.led w src c d e ed own my mt ++ own5) → Q .none { s with heap := h', toks := tk' }) :
    wpAny (model PySem.Challenge.rw_nu0123_01.row.prog w) (ktrTop dp un gd cn cs L x ccd cl outer) (call (.ref 210) [.ref src, .ref c, .ref own, .int now tk1, .int ring tk2]) Q E s := by
  have o7 := led_off7 off5
  have ox := fun x hx => led_offx (x := x) off5 hx
  have hr0 : 0 < ring := by rcases hr with h | h <;> (rw [h]; decide)
  clear off5
  obtain ⟨a, ta, b, tb, n, T, tr, te, oe, tta, TE, m8, s4, ms, o, u, nx, tn, tm, otm, tt, xs, n2⟩ := S
  obtain ⟨ha, hb0, hb1, hte, htm, ho, hok, htim, hlen, htr0, htr1, hn0, hn1, hn2, hcu, hdu, hou, hnd, hoff⟩ := G
  dsimp only at ha hb0 hb1 hok htim hn0 hn1 hcu hdu hou hnd hoff h6 o7 ox
  dsimp only [LawS.led, List.cons_append] at N
  have e1 : @LT.lt Nat _ src e := Nat.lt_trans c1 c2
  have e2 : @LT.lt Nat _ src d := Nat.lt_trans e1 c3
  have e3 : @LT.lt Nat _ src c := Nat.lt_trans e2 c4
  have e4 : @LT.lt Nat _ e c := Nat.lt_trans c3 c4
  have e5 : @LT.lt Nat _ ed d := Nat.lt_trans c2 c3
  have e6 : @LT.lt Nat _ ed c := Nat.lt_trans c2 e4
  have e7 : @LT.lt Nat _ e own := Nat.lt_trans e4 c5
  have e8 : @LT.lt Nat _ ed own := Nat.lt_trans e6 c5
  have e9 : @LT.lt Nat _ e u := Nat.lt_trans e4 hcu
  have e10 : @LT.lt Nat _ ed u := Nat.lt_trans e6 hcu
  have offT : OwnOff (xs.map Ent.cell ++ own5) [src, c, d, e, ed, own, u] := off_app hoff o7
  have P : Pulls [(src, listOf #[.int a ta, .int b tb] n), (c, instObj 108 d), (d, clkD w T e my tr te tta), (own, o), (u, listOf (refs xs).toArray n2)] ((src, listOf #[.int a ta, .int b tb] n) :: (c, instObj 108 d) :: (d, clkD w T e my tr te tta) :: (e, instObj 164 ed) :: (ed, estD w TE mt m8 s4 ms) :: (own, o) :: (u, listOf (refs xs).toArray n2) :: (xs.map Ent.cell ++ own5)) ((e, instObj 164 ed) :: (ed, estD w TE mt m8 s4 ms) :: (xs.map Ent.cell ++ own5)) := by
    refine Pulls.cons .head (Pulls.cons .head (Pulls.cons .head (Pulls.cons (.tail (.tail .head)) (Pulls.cons (.tail (.tail .head)) Pulls.nil))))
  refine lsent_call w mean mg mb src c d own u a b ta tb n T e my tr te oe tta o nx tn tm otm tt (refs xs) n2 now ring tk1 tk2 ho hte htm (Nat.ne_of_lt e3) (Nat.ne_of_lt e2) (Nat.ne_of_lt (Nat.lt_trans e3 c5)) (Nat.ne_of_lt (Nat.lt_trans e3 hcu)) (Nat.ne_of_gt c4) (Nat.ne_of_lt c5) (Nat.ne_of_lt hcu) (Nat.ne_of_lt (Nat.lt_trans c4 c5)) (Nat.ne_of_lt hdu) hou ha hb0 hb1 hr0 (by rw [refs_len]; exact Nat.le_trans (Nat.le_of_lt h6) (by decide))
    dp un gd cn cs x ccd cl outer A₀ base h₀ L m s ((e, instObj 164 ed) :: (ed, estD w TE mt m8 s4 ms) :: (xs.map Ent.cell ++ own5)) Q E B F X (Pulls.news N P) ⟨fun p hp => N p (P.mem.2 p hp)⟩ (by walk_at "r off") TT hk hdp hun ?ret
  intro a' ta' b' tb' n' T' te' o' nx' tn' tm' tt' n2' l t1 t2 n3 h' tk' ha' hb0' hb1' hx1 hx2 ho' htm' hte' l1 l2 l3 l4 l5 offl F' N' NR'
  clear N P
  have offz : OwnOff (xs.map Ent.cell ++ own5) [l] := fun p hp => offl p (.tail _ (.tail _ hp))
  have N2 : News h₀ L h' ([(src, listOf #[.int a' ta', .int b' tb'] n'), (c, instObj 108 d), (d, clkD w T' e my tr te' (if oe = none ∧ tr = 0 then now else tta)), (own, o'), (u, listOf (refs xs ++ [Value.ref l]).toArray n2'), (l, listOf #[.int nx' t1, .int now t2, .bool false] n3)] ++ ((e, instObj 164 ed) :: (ed, estD w TE mt m8 s4 ms) :: (xs.map Ent.cell ++ own5))) := fun p hp => (List.mem_append.mp hp).elim (N' p) (NR'.out p)
  dsimp only [List.cons_append, List.nil_append] at N2
  refine hret ⟨a', ta', b', tb', n', T', tr, te', if oe = none ∧ tr = 0 then some (nx'.fmod ring) else oe, if oe = none ∧ tr = 0 then now else tta, TE, m8, s4, ms, o', u, nx', tn', tm', if otm = none ∧ tr = 0 then some nx' else otm, tt', xs ++ [⟨l, nx', now, false, t1, t2, n3⟩], n2'⟩ h' tk' ?G (led_off o7 ?hx) F' (led_news _ N2 (by k_mem) (by k_mem) (by k_mem) (by k_mem) (by k_mem) (by k_mem) ?q7 rfl ?qT)
  case q7 =>
    show (u, listOf (refs (xs ++ [(⟨l, nx', now, false, t1, t2, n3⟩ : Ent)])).toArray n2') ∈ _
    rw [refs_snoc]
    k_mem
  case hx =>
    intro y hy
    rcases List.mem_append.mp hy with hy | hy
    · exact ox y hy
    · rw [List.mem_singleton.mp hy]
      exact fun p hp => offz p (List.mem_append_right _ hp)
  case qT =>
    intro p hp
    rw [List.map_append, List.append_assoc] at hp
    rcases List.mem_append.mp hp with hp | hp
    · simp only [List.mem_cons, List.mem_append, hp, true_or, or_true]
    · rcases List.mem_cons.mp hp with hp | hp
      · rw [hp]
        k_mem
      · have hp : p ∈ own5 := hp
        simp only [List.mem_cons, List.mem_append, hp, or_true]
  case G =>
    refine ⟨ha', hb0', hb1', hte', htm', ho', hok.snoc (show nx < nx' by omega) hx2 rfl, timed_send htim rfl rfl rfl, ?_, htr0, htr1, ?_, ?_, hn2, hcu, hdu, hou, nodup_snoc hnd (fun p hp => offz p (List.mem_append_left _ hp)), off_snoc hoff ?_⟩
    · show (xs ++ [_]).length ≤ 6
      rw [List.length_append, List.length_singleton]
      exact h6
    · show 0 ≤ if oe = none ∧ tr = 0 then now else tta
      split <;> omega
    · show (if oe = none ∧ tr = 0 then now else tta) ≤ now
      split <;> omega
    · refine List.forall_mem_cons.mpr ⟨Nat.ne_of_gt l1, List.forall_mem_cons.mpr ⟨Nat.ne_of_gt l2, List.forall_mem_cons.mpr ⟨Nat.ne_of_gt l3, List.forall_mem_cons.mpr ⟨Nat.ne_of_gt (Nat.lt_trans e4 l2), List.forall_mem_cons.mpr ⟨Nat.ne_of_gt (Nat.lt_trans e6 l2), List.forall_mem_cons.mpr ⟨Nat.ne_of_gt l4, List.forall_mem_cons.mpr ⟨Nat.ne_of_gt l5, fun _ h => nomatch h⟩⟩⟩⟩⟩⟩⟩
theorem acked_mid (w : World) (mean : ExcName → Option Value) (mg mb : Str → Option Value) (S : LawS) (src c d e ed own : Addr) (ring my mt now : Int) (j : Nat) (own5 : Led) (tk1 tk2 : Tok)
    (G : S.Good w src c d e ed own ring now j) (h0 : 0 < S.xs.length) (hj : j ≤ 1000) (hr : ring = 256 ∨ ring = 4294967296) (c1 : @LT.lt Nat _ src ed) (c2 : @LT.lt Nat _ ed e) (c3 : @LT.lt Nat _ e d) (c4 : @LT.lt Nat _ d c) (c5 : @LT.lt Nat _ c own)
    (off5 : OwnOff own5 ((S.led w src c d e ed own my mt).map (·.1)))
    (dp un : Nat) (gd : Option (List Code)) (cn : Str) (cs : Scope) (x : Addr) (ccd : Value) (cl : List (Str × Addr)) (outer : List Env) (A₀ : Around) (base h₀ : Heap) (L : Addr) (m : Str → Option Value) (s : Shared) (Q E : Value → Shared → Prop)
    (B : Below A₀ base outer h₀) (F : Fr h₀ L s.heap m) (X : (hd.heap_39 w.params).In h₀) (N : News h₀ L s.heap (S.led w src c d e ed own my mt ++ own5))
    (TT : Top hd.view_39 (looseW hd.view_39 []) mean mg mb h₀) (hk : cs.kind = .function) (hdp : dp + 5 < recursionLimit) (hun : un + 8 * 5 < cLine)
    (hret : ∀ (S' : LawS) (h' : Heap) (tk' : Nat), S'.Good w src c d e ed own ring now j → OwnOff own5 ((S'.led w src c d e ed own my mt).map (·.1)) → Fr h₀ L h' m → News h₀ L h' (S'.led w src c d e ed own my mt ++ own5) → Q (.bool true) { s with heap := h', toks := tk' }) :
    wpAny (model PySem.Challenge.rw_nu0123_01.row.prog w) (ktrTop dp un gd cn cs L x ccd cl outer) (call (.ref 215) [.ref src, .ref c, .ref own, .int now tk1, .int ring tk2]) Q E s := by
  have o7 := led_off7 off5
  have ox := fun x hx => led_offx (x := x) off5 hx
  clear off5
  obtain ⟨a, ta, b, tb, n, T, tr, te, oe, tta, TE, m8, s4, ms, o, u, nx, tn, tm, otm, tt, xs, n2⟩ := S
  obtain ⟨ha, hb0, hb1, hte, htm, ho, hok, htim, hlen, htr0, htr1, hn0, hn1, hn2, hcu, hdu, hou, hnd, hoff⟩ := G
  dsimp only at hb1 hok htim hn0 hn1 hn2 hcu hdu hou hnd hoff h0 o7 ox
  dsimp only [LawS.led, List.cons_append] at N
  have e1 : @LT.lt Nat _ e c := Nat.lt_trans c3 c4
  refine lacked_call w mean mg mb src c d e ed own u a b ta tb n T my tr te oe tta TE mt m8 s4 ms o nx tn tm otm tt xs n2 now ring tk1 tk2 (xs.map Ent.cell ++ own5) ho hte htm
    (Nat.lt_trans c1 c2) c1 e1 (Nat.lt_trans c2 e1) c3 (Nat.lt_trans c2 c3) c5 (Nat.lt_trans c4 c5) hcu hdu (Nat.ne_of_gt c2) (Nat.ne_of_gt c4) hou ha hb0 hb1 hr h0 hlen hok htim (by omega) (by omega) (fun x hx => List.mem_append_left _ (List.mem_map_of_mem hx)) (off_app hoff o7)
    dp un gd cn cs x ccd cl outer A₀ base h₀ L m s Q E B F X N TT hk hdp hun ?ret
  clear N F B TT
  intro a' ta' b' tb' n' T' te' oe' TE' m8' s4' ms' o' u' tn' tm' otm' tt' k h' tk' ha' hb0' hb1' hk1 hk2 hte' htm' ho' htim' l offT F' N'
  refine hret ⟨a', ta', b', tb', n', T', 0, te', oe', tta, TE', m8', s4', ms', o', u', nx, tn', tm', otm', tt', xs.drop k, 0⟩ h' tk' ?G (led_off (off_u o7 (fun p hp => offT p (List.mem_append_right _ hp))) (fun y hy => ox y (List.mem_of_mem_drop hy))) F'
    (led_news _ N' (.head _) (.tail _ (.head _)) (.tail _ (.tail _ (.head _))) (.tail _ (.tail _ (.tail _ (.head _)))) (.tail _ (.tail _ (.tail _ (.tail _ (.head _))))) (.tail _ (.tail _ (.tail _ (.tail _ (.tail _ (.head _)))))) (.tail _ (.tail _ (.tail _ (.tail _ (.tail _ (.tail _ (.head _))))))) rfl ?qT)
  case qT =>
    intro p hp
    rcases List.mem_append.mp hp with hp | hp
    · obtain ⟨z, hz, rfl⟩ := List.mem_map.mp hp
      exact (.tail _ (.tail _ (.tail _ (.tail _ (.tail _ (.tail _ (.tail _ (List.mem_append_left _ (List.mem_map_of_mem (List.mem_of_mem_drop hz))))))))))
    · exact (.tail _ (.tail _ (.tail _ (.tail _ (.tail _ (.tail _ (.tail _ (List.mem_append_right _ hp))))))))
  case G =>
    refine ⟨ha', hb0', hb1', hte', htm', ho', hok.drop k, htim', ?_, Int.le_refl 0, Int.natCast_nonneg j, hn0, hn1, hn2, l.2.1, l.2.2.1, Nat.ne_of_lt l.2.2.2.2.2, nodup_drop k hnd, off_u (off_drop k hoff) (off_drop k (fun p hp => offT p (List.mem_append_left _ hp)))⟩
    show (xs.drop k).length ≤ 6
    rw [List.length_drop]
    exact Nat.le_trans (Nat.sub_le _ _) hlen
theorem late_mid (w : World) (mean : ExcName → Option Value) (mg mb : Str → Option Value) (S : LawS) (src c d e ed own : Addr) (ring my mt now : Int) (j : Nat) (own5 : Led) (tk1 : Tok)
    (G : S.Good w src c d e ed own ring now j) (ht : S.tr + 1 ≤ (j : Int)) (c1 : @LT.lt Nat _ src ed) (c2 : @LT.lt Nat _ ed e) (c3 : @LT.lt Nat _ e d) (c4 : @LT.lt Nat _ d c) (c5 : @LT.lt Nat _ c own)
    (off5 : OwnOff own5 ((S.led w src c d e ed own my mt).map (·.1)))
    (dp un : Nat) (gd : Option (List Code)) (cn : Str) (cs : Scope) (x : Addr) (ccd : Value) (cl : List (Str × Addr)) (outer : List Env) (A₀ : Around) (base h₀ : Heap) (L : Addr) (m : Str → Option Value) (s : Shared) (Q E : Value → Shared → Prop)
    (B : Below A₀ base outer h₀) (F : Fr h₀ L s.heap m) (X : (hd.heap_39 w.params).In h₀) (N : News h₀ L s.heap (S.led w src c d e ed own my mt ++ own5))
    (TT : Top hd.view_39 (looseW hd.view_39 []) mean mg mb h₀) (hk : cs.kind = .function) (hdp : dp + 2 < recursionLimit) (hun : un + 8 * 2 < cLine)
    (hret : ∀ (S' : LawS) (h' : Heap) (tk' : Nat), S'.Good w src c d e ed own ring now j → OwnOff own5 ((S'.led w src c d e ed own my mt).map (·.1)) → Fr h₀ L h' m → News h₀ L h' (S'.led w src c d e ed own my mt ++ own5) → Q (.bool true) { s with heap := h', toks := tk' }) :
    wpAny (model PySem.Challenge.rw_nu0123_01.row.prog w) (ktrTop dp un gd cn cs L x ccd cl outer) (call (.ref 222) [.ref c, .ref own, .int my tk1]) Q E s := by
  have o7 := led_off7 off5
  have ox := fun x hx => led_offx (x := x) off5 hx
  clear off5
  obtain ⟨a, ta, b, tb, n, T, tr, te, oe, tta, TE, m8, s4, ms, o, u, nx, tn, tm, otm, tt, xs, n2⟩ := S
  obtain ⟨ha, hb0, hb1, hte, htm, ho, hok, htim, hlen, htr0, htr1, hn0, hn1, hn2, hcu, hdu, hou, hnd, hoff⟩ := G
  dsimp only at hok hcu hdu hou hnd hoff ht htr0 o7 ox
  dsimp only [LawS.led, List.cons_append] at N
  have e1 : @LT.lt Nat _ e c := Nat.lt_trans c3 c4
  have e2 : @LT.lt Nat _ ed d := Nat.lt_trans c2 c3
  have e3 : @LT.lt Nat _ src d := Nat.lt_trans c1 e2
  have e4 : @LT.lt Nat _ ed c := Nat.lt_trans e2 c4
  have e5 : @LT.lt Nat _ src c := Nat.lt_trans e3 c4
  have hx : ∀ q ∈ [src, e, ed], @Ne Nat q c ∧ @Ne Nat q d ∧ @Ne Nat q own ∧ @Ne Nat q u ∧ ∀ x ∈ xs, q ≠ x.a := by
    have k := fun q (hq : q ∈ [src, c, d, e, ed, own, u]) x (hx : x ∈ xs) (e : q = x.a) => hoff x.cell (List.mem_map_of_mem hx) q hq e.symm
    refine List.forall_mem_cons.mpr ⟨⟨Nat.ne_of_lt e5, Nat.ne_of_lt e3, Nat.ne_of_lt (Nat.lt_trans e5 c5), Nat.ne_of_lt (Nat.lt_trans e5 hcu), k src (.head _)⟩, List.forall_mem_cons.mpr ⟨⟨Nat.ne_of_lt e1, Nat.ne_of_lt c3, Nat.ne_of_lt (Nat.lt_trans e1 c5), Nat.ne_of_lt (Nat.lt_trans e1 hcu), k e (.tail _ (.tail _ (.tail _ (.head _))))⟩,
      List.forall_mem_cons.mpr ⟨⟨Nat.ne_of_lt e4, Nat.ne_of_lt e2, Nat.ne_of_lt (Nat.lt_trans e4 c5), Nat.ne_of_lt (Nat.lt_trans e4 hcu), k ed (.tail _ (.tail _ (.tail _ (.tail _ (.head _)))))⟩, fun _ h => nomatch h⟩⟩⟩
  have hy : ∀ q ∈ [src, e, ed], ∀ b ∈ c :: d :: own :: u :: (xs.map Ent.cell).map (·.1), q ≠ b := by
    intro q hq
    have k := hx q hq
    refine List.forall_mem_cons.mpr ⟨k.1, List.forall_mem_cons.mpr ⟨k.2.1, List.forall_mem_cons.mpr ⟨k.2.2.1, List.forall_mem_cons.mpr ⟨k.2.2.2.1, ?_⟩⟩⟩⟩
    intro b hb
    obtain ⟨y, hy, rfl⟩ := List.mem_map.mp hb
    obtain ⟨z, hz, rfl⟩ := List.mem_map.mp hy
    exact k.2.2.2.2 z hz
  have hz : OwnOff own5 (c :: d :: own :: u :: (xs.map Ent.cell).map (·.1)) := fun p hp => List.forall_mem_cons.mpr ⟨o7 p hp c (by simp), List.forall_mem_cons.mpr ⟨o7 p hp d (by simp), List.forall_mem_cons.mpr ⟨o7 p hp own (by simp), List.forall_mem_cons.mpr ⟨o7 p hp u (by simp), fun b hb => by
    obtain ⟨y, hy, rfl⟩ := List.mem_map.mp hb
    obtain ⟨z, hz, rfl⟩ := List.mem_map.mp hy
    exact ox z hz p hp _ (List.mem_singleton.mpr rfl)⟩⟩⟩⟩
  refine llate_con w mean mg mb c d own u T e my tr te oe tta o nx tn tm tt xs n2 tk1 ho hte (Nat.ne_of_gt c4) (Nat.ne_of_lt c5) (Nat.ne_of_lt hcu) (Nat.ne_of_lt (Nat.lt_trans c4 c5)) (Nat.ne_of_lt hdu) hou hnd (offSub hoff (by walk_at "r ins")) (Nat.le_trans hlen (by decide))
    dp un gd cn cs x ccd cl outer A₀ base h₀ L m s ((src, listOf #[.int a ta, .int b tb] n) :: (e, instObj 164 ed) :: (ed, estD w TE mt m8 s4 ms) :: own5) Q E B F X ?N ⟨?NR⟩ (off_cons (hy src (.head _)) (off_cons (hy e (.tail _ (.head _))) (off_cons (hy ed (.tail _ (.tail _ (.head _)))) hz))) TT hk hdp hun ?ret
  case N =>
    exact List.forall_mem_cons.mpr ⟨N _ (.tail _ (.head _)), List.forall_mem_cons.mpr ⟨N _ (.tail _ (.tail _ (.head _))), List.forall_mem_cons.mpr ⟨N _ (.tail _ (.tail _ (.tail _ (.tail _ (.tail _ (.head _)))))), List.forall_mem_cons.mpr ⟨N _ (.tail _ (.tail _ (.tail _ (.tail _ (.tail _ (.tail _ (.head _))))))), fun p hp => N p (.tail _ (.tail _ (.tail _ (.tail _ (.tail _ (.tail _ (.tail _ (List.mem_append_left _ hp))))))))⟩⟩⟩⟩
  case NR =>
    exact List.forall_mem_cons.mpr ⟨N _ (.head _), List.forall_mem_cons.mpr ⟨N _ (.tail _ (.tail _ (.tail _ (.head _)))), List.forall_mem_cons.mpr ⟨N _ (.tail _ (.tail _ (.tail _ (.tail _ (.head _))))), fun p hp => N p (.tail _ (.tail _ (.tail _ (.tail _ (.tail _ (.tail _ (.tail _ (List.mem_append_right _ hp))))))))⟩⟩⟩
  clear N F B TT
  intro v news' h' tk' hp F' N' NR'
  obtain ⟨T', o', tn', tt', e1, ho', e2⟩ := hp
  subst e1 e2
  have N2 : News h₀ L h' (((c, instObj 108 d) :: (d, clkD w T' e my (tr + 1) .none tta) :: (own, o') :: (u, listOf (refs xs).toArray n2) :: (xs.map mark).map Ent.cell) ++ ((src, listOf #[.int a ta, .int b tb] n) :: (e, instObj 164 ed) :: (ed, estD w TE mt m8 s4 ms) :: own5)) := fun p hp => (List.mem_append.mp hp).elim (N' p) (NR'.out p)
  refine hret ⟨a, ta, b, tb, n, T', tr + 1, .none, none, tta, TE, m8, s4, ms, o', u, nx, tn', .none, none, tt', xs.map mark, n2⟩ h' tk' ?G (led_off o7 ?hm) F' (led_news _ N2 (List.mem_append_right _ (.head _)) (.head _) (.tail _ (.head _)) (List.mem_append_right _ (.tail _ (.head _))) (List.mem_append_right _ (.tail _ (.tail _ (.head _)))) (.tail _ (.tail _ (.head _))) ?q7 rfl ?qT)
  case q7 =>
    show (u, listOf (refs (xs.map mark)).toArray n2) ∈ _
    rw [refs_mark]
    exact .tail _ (.tail _ (.tail _ (.head _)))
  case qT =>
    intro p hp
    rcases List.mem_append.mp hp with hp | hp
    · exact List.mem_append_left _ (.tail _ (.tail _ (.tail _ (.tail _ hp))))
    · exact List.mem_append_right _ (.tail _ (.tail _ (.tail _ hp)))
  case hm =>
    intro y hy
    obtain ⟨z, hz, rfl⟩ := List.mem_map.mp hy
    exact ox z hz
  case G =>
    refine ⟨ha, hb0, hb1, .none, .none, ho', hok.mark, rfl, ?_, Int.le_trans htr0 (Int.le_of_lt (Int.lt_succ tr)), ht, hn0, hn1, hn2, hcu, hdu, hou, nodup_mark hnd, off_mark hoff⟩
    show (xs.map mark).length ≤ 6
    rw [List.length_map]
    exact hlen
noncomputable def blockOf : Stmt → List Stmt
  | .FunctionDef _ _ b _ _ _ _ _ _ _ => b
  | .For _ _ b _ _ => b
  | _ => []
noncomputable def scopeOf : Stmt → Scope
  | .FunctionDef _ _ _ _ _ _ sc _ _ _ => sc
  | _ => ⟨.function, [], false, false, []⟩
noncomputable def fromAt : Nat → List Stmt → List Stmt
  | 0, l => l
  | _ + 1, [] => []
  | n + 1, _ :: r => fromAt n r
noncomputable def stmtAt (n : Nat) (l : List Stmt) : Stmt := match fromAt n l with
  | x :: _ => x
  | [] => .Pass ⟨0, 0, 0, 0⟩
noncomputable def lawDef : Stmt := stmtAt 18 PySem.Challenge.pw_nu0123_01.main.body
noncomputable def lawSc : Scope := scopeOf lawDef
noncomputable def lawEnv (L f : Addr) (cd : Value) : Env := envOf (Str.ofString "law") lawSc L f cd
noncomputable def outerBody : List Stmt := blockOf (stmtAt 0 (blockOf lawDef))
noncomputable def doneStmts : List Stmt := fromAt 7 outerBody
noncomputable def innerBody : List Stmt := blockOf (stmtAt 6 outerBody)
noncomputable def evStmt : Stmt := stmtAt 2 innerBody
noncomputable def restStmts : List Stmt := fromAt 3 innerBody
noncomputable abbrev evM (src e c own la : Addr) (ring my mt now0 now : Int) (tr ty tm tn t5 : Tok) (j : Nat) (tj : Tok) (ev : String) (tv : Tok) (uu : Str → Option Value) : Str → Option Value := fun y =>
  if y = Str.ofString "event" then some (.str (Str.ofString ev) tv) else if y = Str.ofString "now" then some (.int now t5) else if y = Str.ofString "turn" then some (.int (j : Int) tj) else lawM src e c own la ring my mt now0 tr ty tm tn uu y
local macro_rules | `(tactic| walk_at "pyIter ref") => `(tactic| (k_here; refine stop_here ?_))
theorem lines103 : True := by
  k_with "call ref" => (k_here; (with_reducible show wpAny _ _ (call (Value.ref 175) _) _ _ _); k_dflt (refine' pool_use _ _ _ _ _ _ _ _ _ ?hx1w9 ?hx2w9 ?hx3w9 ?hx4w9 ?hx5w9 _ _ _ _ _ _ _ _ _ _ _ _ _ _ _ _ _ _ ?kBw9 ?kFw9 ?kXw9 ?kLw9 ?kNw9 ?kTw9 ?kKw9 ?kdw9 ?kuw9 ?_; (case kBw9 => k_asm); (case kFw9 => k_asm); (case kXw9 => k_asm); (case kLw9 => k_asm); (case kNw9 => k_asm); (case kTw9 => k_asm); (case kKw9 => exact rfl); (case kdw9 => ktr_room); (case kuw9 => ktr_units); (case hx1w9 => assumption); (case hx2w9 => omega); (case hx3w9 => omega); (case hx4w9 => omega); (case hx5w9 => assumption)); intro v9 a9 ta9 b9 tb9 c9 h9 tk9 ha9 hb9 hb8 off9 F9 N9; (try k_sweep); (try dsimp only); (try k_fold))
  k_with "call ref" => (k_here; (with_reducible show wpAny _ _ (call (Value.ref 189) _) _ _ _); k_dflt ((first | (refine' con_o2 (one_con _ _ _ _ _ _ _ _ _ _ _ _ _ _ _ _ _ _ _) ?Sw9 ?_; walk_at "r s") | (refine' con_o3 (one_con _ _ _ _ _ _ _ _ _ _ _ _ _ _ _ _ _ _ _) ?Sw9 ?_; walk_at "r s")); iterate 6 (walk_at "r c")); intro x9 t9 a9 ta9 b9 tb9 c9 h9 tk9 hx9 ha9 hb9 hb8 F9 N9; walk_at "r fin")
  k_with "r upto" => repeat' ((fail_if_success (with_reducible show wpAny _ _ (exec (Stmt.If _ _ _ _) _) _ _ _)); (first | (k_unfold; (try dsimp only)) | walk1 | (dsimp only; walk1)))
  k_with "call ref" => (k_here; (with_reducible show wpAny _ _ (call (Value.ref 203) _) _ _ _); k_dflt (refine' con_x (event_con _ _ _ _ _ _ _ _ _ _ _ _ _ _ _ _ _ _ _ _ ?hw9 _ _ _ _ _ _) ?Sw9 ?_; walk_at "r s"; (case hw9 => k_asm); iterate 6 (walk_at "r c")); intro v9 n9 h9 tk9 p9 F9 N9; obtain ⟨ev9, tv9, a9, ta9, b9, tb9, c9, e9, hev9, ha9, hb9, hb8, f9⟩ := p9; subst e9; subst f9; walk_at "r fin")
  k_with "call ref" => (k_here; (with_reducible show wpAny _ _ (call (Value.ref 196) _) _ _ _); k_dflt (refine' con_1 (lwait_con _ _ _ _ _ _ _ _ _ _ _ _ _ _ _ _ _ _ _) ?Sw9 ?_; walk_at "r s"; iterate 5 (walk_at "r c")); walk_at "r p1")
  k_with "call ref" => (k_here; (with_reducible show wpAny _ _ (call (Value.ref 98) _) _ _ _); k_dflt (refine' con_1 (waitW_con _ _ _ _ _ _ _ _ _ _ _ _ _ _ _ _ _ _ _ _ _ _ _ _ _ _) ?Sw9 ?_; walk_at "r s"; iterate 8 (walk_at "r c")); walk_at "r p1")
  k_with "call ref" => (k_here; (with_reducible show wpAny _ _ (call (Value.ref 105) _) _ _ _); k_dflt (refine' con_1 (deadline_con _ _ _ _ _ _ _ _ _ _ _ _ _ _ _ _ _ _ _ _ _ _ _ _ _ _ _ _) ?Sw9 ?_; walk_at "r s"; iterate 8 (walk_at "r c")); walk_at "r p1")
  k_with "call ref" => (k_here; (with_reducible show wpAny _ _ (call (Value.ref 56) _) _ _ _); k_dflt (refine' con_5 (timing_con _ _ _ _ _ _ _ _ _ _ _ _ _ _ ?hw9) ?Sw9 ?_; walk_at "r s"; (case hw9 => k_asm); walk_at "r c"); walk_at "r p5")
  k_with "call ref" => (k_here; (with_reducible show wpAny _ _ (call (Value.ref 91) _) _ _ _); k_dflt (refine' con_5 (reset_con _ _ _ _ _ _ _ _ _ _ _ _ _ _ ?hw9) ?Sw9 ?_; walk_at "r s"; (case hw9 => k_asm); walk_at "r c"); walk_at "r p5")
  k_with "call ref" => (k_here; (with_reducible show wpAny _ _ (call (Value.ref 70) _) _ _ _); k_dflt (refine' con_5 (forget_con _ _ _ _ _ _ _ _ _ _ _ _ _ _ ?hw9) ?Sw9 ?_; walk_at "r s"; (case hw9 => k_asm); walk_at "r c"); walk_at "r p5")
  k_with "call ref" => (k_here; (with_reducible show wpAny _ _ (call (Value.ref 210) _) _ _ _); refine stop_here ?_)
  k_with "call ref" => (k_here; (with_reducible show wpAny _ _ (call (Value.ref 215) _) _ _ _); refine stop_here ?_)
  k_with "call ref" => (k_here; (with_reducible show wpAny _ _ (call (Value.ref 222) _) _ _ _); refine stop_here ?_)
  trivial
set_option maxHeartbeats 8000000 in
theorem law_ev (w : World) (mean : ExcName → Option Value) (mg mb : Str → Option Value) (h₀ : Heap) (L f : Addr) (cd : Value) (K0 : Below callerA h₀ [] h₀) (X : (hd.heap_39 w.params).In h₀) (T : Top hd.view_39 (looseW hd.view_39 []) mean mg mb h₀)
   (src c d e ed own2 la : Addr) (ring my mt now0 now : Int) (t3 t2 t1 tn t5 : Tok) (j : Nat) (tj : Tok) (ev : String) (tv : Tok) (uu : Str → Option Value) (S : LawS) (own5 : Led)
   (hev : ev = "send" ∨ (refs S.xs ≠ [] ∧ (ev = "ack" ∨ ev = "late" ∨ ev = "again"))) (G6 : S.Good w src c d e ed own2 ring now (j + 1)) (ht6 : S.tr + 1 ≤ ((j + 1 : Nat) : Int)) (hj : j < 40) (hr : ring = 256 ∨ ring = 4294967296)
   (c1 : @LT.lt Nat _ src ed) (c2 : @LT.lt Nat _ ed e) (c3 : @LT.lt Nat _ e d) (c4 : @LT.lt Nat _ d c) (c5 : @LT.lt Nat _ c own2) (off6 : OwnOff own5 ((S.led w src c d e ed own2 my mt).map (·.1))) (h5 : Heap) (tk5 : Nat) (s : Shared)
   (F5 : Fr h₀ L h5 (evM src e c own2 la ring my mt now0 now t3 t2 t1 tn t5 j tj ev tv uu)) (N6 : News h₀ L h5 (S.led w src c d e ed own2 my mt ++ own5)) :
   wpAny (model PySem.Challenge.rw_nu0123_01.row.prog w) (callerA.deeper (lawEnv L f cd)) (exec evStmt (lawEnv L f cd))
     (fun fl s' => fl = .next ∧ LawMid w h₀ L (evM src e c own2 la ring my mt now0 now t3 t2 t1 tn t5 j tj ev tv uu) src c d e ed own2 ring my mt now j own5 { s with heap := h5, toks := tk5 } s') (fun _ _ => False) { s with heap := h5, toks := tk5 } := by
  revert X
  k_fill
  w_top off
  intro X
  change wpAny _ (callerA.deeper (envOf _ (PySem.Scope.mk _ _ _ _ _) _ _ _)) (exec (PySem.Stmt.If _ _ _ _) (envOf _ (PySem.Scope.mk _ _ _ _ _) _ _ _)) _ _ _
  unfold evM at F5
  obtain ⟨S6, hS6⟩ : ∃ S', S' = S := ⟨_, rfl⟩
  rw [← hS6] at G6 off6 ht6
  have hG := G6
  rw [hS6] at hG
  have N5 := N6
  have K6 : Kept h₀ L h5 (S6.led w src c d e ed own2 my mt ++ own5) := ⟨by rw [hS6]; exact N6⟩
  clear N6
  obtain ⟨a, ta, b, tb, n, T9, tr, te, oe, tta, TE, m8, s4, ms, o, u4, nx, tn9, tm, otm, tt, xs, n2⟩ := S
  obtain ⟨ha, hb0, hb1, hte, htm, ho, hok, htim, hlen, htr0, htr1, hn0, hn1, hn2, hcu, hdu, hou, hnd, hoff⟩ := hG
  dsimp only at ha hb0 hb1 hte htm ho hok htim hlen htr0 htr1 hn0 hn1 hn2 hcu hdu hou hnd hoff hev
  dsimp only [LawS.led, List.cons_append] at N5
  dsimp only [OwnIs] at ho
  have hx6 : S6.xs = xs := by rw [hS6]
  have offTl : OwnOff (xs.map Ent.cell ++ own5) [src, c, d, e, ed, own2, u4] := off_app hoff (fun p hp b hb => off6 p hp b (by
    rw [hS6]
    simp only [List.mem_cons, List.not_mem_nil, or_false] at hb
    rcases hb with h | h | h | h | h | h | h <;> simp [h, LawS.led]))
  generalize hTe : xs.map Ent.cell ++ own5 = Tl at N5 offTl
  clear hok htim hoff hn0 hn1 hn2 htr0 htr1
  rcases hev with hev | ⟨hne, hev | hev | hev⟩
  · subst hev
    k_steps
    · skip
      refine stop_on ?_
      refine' sent_mid _ _ _ _ S6 src c d e ed own2 ring my mt now (j + 1) own5 _ _ G6 (by rw [hx6]; omega) hr c1 c2 c3 c4 c5 off6 _ _ _ _ _ _ _ _ _ _ _ _ _ _ _ _ _ ?kB ?kF ?kX K6.out ?kT ?kK ?kd ?ku ?_
      case kB => k_asm
      case kF => k_asm
      case kX => k_asm
      case kT => k_asm
      case kK => first | exact rfl | assumption
      case kd => ktr_room
      case ku => ktr_units
      intro S7 h7 tk7 G7 off7 F7 N7
      (try k_sweep)
      (try dsimp only)
      (try k_fold)
      k_steps
      first | exact ⟨rfl, S7, _, _, rfl, F7, N7, off7, G7⟩ | exact ⟨S7, _, _, rfl, F7, N7, off7, G7⟩
    · skip
      first | exact ⟨rfl, S6, _, _, rfl, F5, K6.out, off6, G6⟩ | exact ⟨S6, _, _, rfl, F5, K6.out, off6, G6⟩
  · subst hev
    k_steps
    · skip
      refine stop_on ?_
      refine' acked_mid _ _ _ _ S6 src c d e ed own2 ring my mt now (j + 1) own5 _ _ G6 (by rw [hx6]; exact List.length_pos_iff.mpr (fun q => hne (by rw [q]; rfl))) (by omega) hr c1 c2 c3 c4 c5 off6 _ _ _ _ _ _ _ _ _ _ _ _ _ _ _ _ _ ?kB ?kF ?kX K6.out ?kT ?kK ?kd ?ku ?_
      case kB => k_asm
      case kF => k_asm
      case kX => k_asm
      case kT => k_asm
      case kK => first | exact rfl | assumption
      case kd => ktr_room
      case ku => ktr_units
      intro S7 h7 tk7 G7 off7 F7 N7
      (try k_sweep)
      (try dsimp only)
      (try k_fold)
      k_steps
      first | exact ⟨rfl, S7, _, _, rfl, F7, N7, off7, G7⟩ | exact ⟨S7, _, _, rfl, F7, N7, off7, G7⟩
  · subst hev
    k_steps
    · skip
      refine stop_on ?_
      refine' late_mid _ _ _ _ S6 src c d e ed own2 ring my mt now (j + 1) own5 _ G6 ht6 c1 c2 c3 c4 c5 off6 _ _ _ _ _ _ _ _ _ _ _ _ _ _ _ _ _ ?kB ?kF ?kX K6.out ?kT ?kK ?kd ?ku ?_
      case kB => k_asm
      case kF => k_asm
      case kX => k_asm
      case kT => k_asm
      case kK => first | exact rfl | assumption
      case kd => ktr_room
      case ku => ktr_units
      intro S7 h7 tk7 G7 off7 F7 N7
      (try k_sweep)
      (try dsimp only)
      (try k_fold)
      k_steps
      first | exact ⟨rfl, S7, _, _, rfl, F7, N7, off7, G7⟩ | exact ⟨S7, _, _, rfl, F7, N7, off7, G7⟩
  · subst hev
    cases xs with
    | nil => exact absurd rfl hne
    | cons z ys =>
      subst hTe
      simp only [List.map_cons, List.cons_append] at N5 offTl hnd
      have z1 : @Ne Nat z.a src := offTl _ (.head _) _ (by simp)
      have z2 : @Ne Nat z.a c := offTl _ (.head _) _ (by simp)
      have z3 : @Ne Nat z.a d := offTl _ (.head _) _ (by simp)
      have z4 : @Ne Nat z.a e := offTl _ (.head _) _ (by simp)
      have z5 : @Ne Nat z.a ed := offTl _ (.head _) _ (by simp)
      have z6 : @Ne Nat z.a own2 := offTl _ (.head _) _ (by simp)
      have z7 : @Ne Nat z.a u4 := offTl _ (.head _) _ (by simp)
      have offT : OwnOff (ys.map Ent.cell ++ own5) [src, c, d, e, ed, own2, u4] := fun p hp => offTl p (.tail _ hp)
      have offZ : OwnOff (ys.map Ent.cell ++ own5) [z.a] := off_app (fun p hp b hb => by
        rw [List.mem_singleton.mp hb]
        obtain ⟨y, hy, rfl⟩ := List.mem_map.mp hp
        exact fun q => (List.nodup_cons.mp hnd).1 (q ▸ List.mem_map_of_mem hy)) (fun p hp b hb => off6 p hp b (by
        rw [List.mem_singleton.mp hb, hS6]
        exact .tail _ (.tail _ (.tail _ (.tail _ (.tail _ (.tail _ (.tail _ (.head _)))))))))
      have offW : OwnOff (ys.map Ent.cell ++ own5) [src, c, d, e, ed, own2, u4, z.a] := fun p hp b hb => by
        simp only [List.mem_cons, List.not_mem_nil, or_false] at hb
        rcases hb with h | h | h | h | h | h | h | h
        · exact offT p hp b (by simp [h])
        · exact offT p hp b (by simp [h])
        · exact offT p hp b (by simp [h])
        · exact offT p hp b (by simp [h])
        · exact offT p hp b (by simp [h])
        · exact offT p hp b (by simp [h])
        · exact offT p hp b (by simp [h])
        · exact offZ p hp b (by simp [h])
      clear offTl offT offZ
      generalize hT2 : ys.map Ent.cell ++ own5 = Tl2 at N5 offW
      k_steps
      with_reducible rename News _ _ _ _ => N8
      with_reducible rename Fr _ _ _ _ => F8
      with_reducible rename CT => T8
      with_reducible rename IsOpt _ _ => io8
      with_reducible rename Obj.IsDictOf _ _ _ => ho8
      with_reducible rename Obj => o8
      rw [hS6] at G6 off6
      obtain ⟨g1, g2, g3, g4, g5, g6, g7, g8, g9, g10, g11, g12, g13, g14, g15, g16, g17, g18, g19⟩ := G6
      dsimp only at g1 g2 g3 g7 g9 g10 g11 g12 g13 g14 g15 g16 g17 g18 g19
      refine ⟨⟨a, ta, b, tb, n, T8, tr, _, none, tta, TE, m8, s4, ms, o8, u4, nx, _, .none, none, _, mark z :: ys, n2⟩, _, _, rfl, F8, led_news (Tl := (mark z).cell :: Tl2) _ N8 (by k_mem) (by k_mem) (by k_mem) (by k_mem) (by k_mem) (by k_mem) ?m7 ?mT ?mq, off6, ⟨g1, g2, g3, io8, IsOpt.none, ho8, g7.mark1, rfl, g9, g10, g11, g12, g13, g14, g15, g16, g17, g18, ?mo⟩⟩
      case m7 =>
        show (u4, listOf (Value.ref z.a :: List.map (fun x => Value.ref x.a) ys).toArray n2) ∈ _
        k_mem
      case mT =>
        rw [← hT2]
        rfl
      case mq =>
        intro p hp
        rcases List.mem_cons.mp hp with rfl | hp
        · show (z.a, listOf #[.int z.e z.te, .int z.s z.ts, .bool true] z.n) ∈ _
          k_mem
        · simp only [List.mem_cons, hp, or_true]
      case mo =>
        intro p hp b hb
        rcases List.mem_cons.mp hp with rfl | hp
        · exact g19 z.cell (.head _) b hb
        · exact g19 p (.tail _ hp) b hb
set_option maxHeartbeats 8000000 in
theorem law_rest (w : World) (mean : ExcName → Option Value) (mg mb : Str → Option Value) (h₀ : Heap) (L f : Addr) (cd : Value) (K0 : Below callerA h₀ [] h₀) (X : (hd.heap_39 w.params).In h₀) (T : Top hd.view_39 (looseW hd.view_39 []) mean mg mb h₀)
   (src c d e ed own2 la : Addr) (ring my mt now0 now : Int) (t3 t2 t1 tn t5 : Tok) (j : Nat) (tj : Tok) (ev : String) (tv : Tok) (uu : Str → Option Value) (S : LawS) (own own4 own5 : Led)
   (G6 : S.Good w src c d e ed own2 ring now (j + 1)) (hj : j < 40) (hm0 : 9 ≤ mt) (hm1 : mt ≤ 100000)
   (c1 : @LT.lt Nat _ src ed) (c2 : @LT.lt Nat _ ed e) (c3 : @LT.lt Nat _ e d) (c4 : @LT.lt Nat _ d c) (c5 : @LT.lt Nat _ c own2) (h5 : own ++ own4 = own5) (offx : OwnOff own4 (own.map (·.1))) (off7 : OwnOff own5 ((S.led w src c d e ed own2 my mt).map (·.1))) (h7 : Heap) (tk7 : Nat) (s : Shared)
   (F7 : Fr h₀ L h7 (evM src e c own2 la ring my mt now0 now t3 t2 t1 tn t5 j tj ev tv uu)) (N7 : News h₀ L h7 (S.led w src c d e ed own2 my mt ++ own5)) (Q4 : Flow → Shared → Prop)
   (hnext4 : ∀ (h' : Heap) (tk' : Nat) (m₂ : Str → Option Value) (news₂ : Led), Fr h₀ L h' m₂ → News h₀ L h' (news₂ ++ own4) → OwnOff own4 (news₂.map (·.1)) → LawJ w src c d e ed own2 la ring my mt t3 t2 t1 own (j + 1) m₂ news₂ → Q4 .next { s with heap := h', toks := tk' }) :
   wpAny (model PySem.Challenge.rw_nu0123_01.row.prog w) (callerA.deeper (lawEnv L f cd)) (execs restStmts (lawEnv L f cd)) Q4 (fun _ _ => False) { s with heap := h7, toks := tk7 } := by
  revert X
  k_fill
  w_top off
  intro X
  change wpAny _ (callerA.deeper (envOf _ (PySem.Scope.mk _ _ _ _ _) _ _ _)) (execs (_ :: _) (envOf _ (PySem.Scope.mk _ _ _ _ _) _ _ _)) _ _ _
  unfold evM at F7
  obtain ⟨a, ta, b, tb, n, T9, tr, te, oe, tta, TE, m8, s4, ms, o, u4, nx, tn9, tm, otm, tt, xs, n2⟩ := S
  obtain ⟨ha, hb0, hb1, hte, htm, ho, hok, htim, hlen, htr0, htr1, hn0, hn1, hn2, hcu, hdu, hou, hnd, hoff⟩ := G6
  dsimp only at ha hb0 hb1 hte htm ho hok htim hlen htr0 htr1 hn0 hn1 hn2 hcu hdu hou hnd hoff
  dsimp only [LawS.led, List.cons_append] at N7 off7
  dsimp only [OwnIs] at ho
  have offTl : OwnOff (xs.map Ent.cell ++ own5) [src, c, d, e, ed, own2, u4] := off_app hoff (fun p hp b hb => off7 p hp b (by
    simp only [List.map_cons, List.mem_cons, List.not_mem_nil, or_false] at hb ⊢
    rcases hb with h | h | h | h | h | h | h <;> simp [h]))
  generalize hTe : xs.map Ent.cell ++ own5 = Tl at N7 offTl
  have htim2 := htim
  k_steps
  · exact absurd rfl (by assumption)
  · exact absurd rfl (by assumption)
  · exact absurd rfl (by assumption)
  · cases htm with
    | none =>
      have hoe : oe = none := htim
      subst hoe
      k_steps
      with_reducible rename News _ _ _ _ => N8
      with_reducible rename Fr _ _ _ _ => F8
      with_reducible rename CT => T8
      with_reducible rename IsOpt _ _ => io8
      obtain ⟨n1, n2, n3⟩ := lawJ_next (now := now) ⟨a, ta, b, tb, n, T8, tr, _, none, tta, TE, m8, s4, ms, o, u4, nx, tn9, .none, none, tt, xs, n2⟩ h5 (led_news ⟨a, ta, b, tb, n, T8, tr, _, none, tta, TE, m8, s4, ms, o, u4, nx, tn9, .none, none, tt, xs, n2⟩ N8 (by k_mem) (by k_mem) (by k_mem) (by k_mem) (by k_mem) (by k_mem) (by k_mem) hTe (fun p hp => by simp only [List.mem_cons, hp, or_true])) off7 offx F8 (lawM_of rfl rfl rfl rfl rfl rfl rfl rfl rfl) ⟨ha, hb0, hb1, io8, IsOpt.none, ho, hok, htim2, hlen, htr0, htr1, hn0, hn1, hn2, hcu, hdu, hou, hnd, hoff⟩
      exact hnext4 _ _ _ _ F8 n1 n2 n3
    | @some x9 t9 =>
      obtain ⟨hoe, -⟩ := htim
      subst hoe
      k_steps
      · exact absurd (by assumption : ((some (x9.fmod ring)).isSome != true) = true) (by simp)
      · with_reducible rename News _ _ _ _ => N8
        with_reducible rename Fr _ _ _ _ => F8
        with_reducible rename CT => T8
        with_reducible rename IsOpt _ _ => io8
        obtain ⟨n1, n2, n3⟩ := lawJ_next (now := now) ⟨a, ta, b, tb, n, T8, tr, _, some (x9.fmod ring), tta, TE, m8, s4, ms, o, u4, nx, tn9, .int x9 t9, some x9, tt, xs, n2⟩ h5 (led_news ⟨a, ta, b, tb, n, T8, tr, _, some (x9.fmod ring), tta, TE, m8, s4, ms, o, u4, nx, tn9, .int x9 t9, some x9, tt, xs, n2⟩ N8 (by k_mem) (by k_mem) (by k_mem) (by k_mem) (by k_mem) (by k_mem) (by k_mem) hTe (fun p hp => by simp only [List.mem_cons, hp, or_true])) off7 offx F8 (lawM_of rfl rfl rfl rfl rfl rfl rfl rfl rfl) ⟨ha, hb0, hb1, io8, IsOpt.some, ho, hok, htim2, hlen, htr0, htr1, hn0, hn1, hn2, hcu, hdu, hou, hnd, hoff⟩
        exact hnext4 _ _ _ _ F8 n1 n2 n3
set_option maxHeartbeats 8000000 in
theorem law_turn (w : World) (mean : ExcName → Option Value) (mg mb : Str → Option Value) (h₀ : Heap) (L f : Addr) (cd : Value) (K0 : Below callerA h₀ [] h₀) (X : (hd.heap_39 w.params).In h₀) (T : Top hd.view_39 (looseW hd.view_39 []) mean mg mb h₀)
   (src c d e ed own2 la : Addr) (ring my mt : Int) (t3 t2 t1 : Tok) (j : Nat) (tj : Tok) (own own4 : Led) (hj : j < 40) (hr : ring = 256 ∨ ring = 4294967296) (hm0 : 9 ≤ mt) (hm1 : mt ≤ 100000)
   (c1 : @LT.lt Nat _ src ed) (c2 : @LT.lt Nat _ ed e) (c3 : @LT.lt Nat _ e d) (c4 : @LT.lt Nat _ d c) (c5 : @LT.lt Nat _ c own2) (h4 : Heap) (tk4 : Nat) (m4 : Str → Option Value) (news4 : Led) (s : Shared)
   (J4 : LawJ w src c d e ed own2 la ring my mt t3 t2 t1 own j m4 news4) (off4 : OwnOff own4 (news4.map (·.1))) (F4 : Fr h₀ L h4 (fun y => if y = Str.ofString "turn" then some (.int (j : Int) tj) else m4 y)) (N4 : News h₀ L h4 (news4 ++ own4)) (Q4 : Flow → Shared → Prop)
   (hnext4 : ∀ (h' : Heap) (tk' : Nat) (m₂ : Str → Option Value) (news₂ : Led), Fr h₀ L h' m₂ → News h₀ L h' (news₂ ++ own4) → OwnOff own4 (news₂.map (·.1)) → LawJ w src c d e ed own2 la ring my mt t3 t2 t1 own (j + 1) m₂ news₂ → Q4 .next { s with heap := h', toks := tk' }) :
   wpAny (model PySem.Challenge.rw_nu0123_01.row.prog w) (callerA.deeper (lawEnv L f cd)) (execs innerBody (lawEnv L f cd)) Q4 (fun _ _ => False) { s with heap := h4, toks := tk4 } := by
  revert X
  k_fill
  w_top off
  intro X
  change wpAny _ (callerA.deeper (envOf _ (PySem.Scope.mk _ _ _ _ _) _ _ _)) (execs (_ :: _) (envOf _ (PySem.Scope.mk _ _ _ _ _) _ _ _)) _ _ _
  obtain ⟨S, now, tnow, uu, em, en, hxo, G⟩ := J4
  subst em en
  rw [List.append_assoc] at N4
  have offx : OwnOff own4 (own.map (·.1)) := fun p hp b hb => off4 p hp b (by rw [List.map_append]; exact List.mem_append_right _ hb)
  have off5 := off_app hxo (fun p hp b hb => off4 p hp b (by rw [List.map_append]; exact List.mem_append_left _ hb))
  clear off4 hxo
  generalize h5 : own ++ own4 = own5 at N4 off5
  have hG := G
  obtain ⟨a, ta, b, tb, n, T9, tr, te, oe, tta, TE, m8, s4, ms, o, u4, nx, tn9, tm, otm, tt, xs, n2⟩ := S
  obtain ⟨ha, hb0, hb1, hte, htm, ho, hok, htim, hlen, htr0, htr1, hn0, hn1, hn2, hcu, hdu, hou, hnd, hoff⟩ := hG
  dsimp only at ha hb0 hb1 hte htm ho hok htim hlen htr0 htr1 hn0 hn1 hn2 hcu hdu hou hnd hoff
  have off6 := off5
  dsimp only [LawS.led, List.cons_append] at N4 off5
  dsimp only [OwnIs] at ho
  have offTl : OwnOff (xs.map Ent.cell ++ own5) [src, c, d, e, ed, own2, u4] := off_app hoff (fun p hp b hb => off5 p hp b (by
    simp only [List.map_cons, List.mem_cons, List.not_mem_nil, or_false] at hb ⊢
    rcases hb with h | h | h | h | h | h | h <;> simp [h]))
  generalize hTe : xs.map Ent.cell ++ own5 = Tl at N4 offTl
  iterate 30 walk1
  k_unfold
  try dsimp only
  walk1
  walk1
  with_reducible rename News _ _ _ _ => N5
  with_reducible rename Fr _ _ _ _ => F5
  with_reducible rename _ < (6 : Int) => h6
  obtain ⟨d6, e6⟩ := exI h6
  subst e6
  with_reducible rename _ ∨ (_ ∧ _) => hev9
  obtain ⟨a6, ta6, b6, tb6, n6, q1, q2, q3, q4, q5⟩ := exSrc N5
  subst q1 q2 q3 q4 q5
  have N6 := led_news ⟨a6, ta6, b6, tb6, n6, T9, tr, te, oe, tta, TE, m8, s4, ms, o, u4, nx, tn9, tm, otm, tt, xs, n2⟩ N5 (by k_mem) (by k_mem) (by k_mem) (by k_mem) (by k_mem) (by k_mem) (by k_mem) hTe (fun p hp => by simp only [List.mem_cons, hp, or_true])
  have G6 : (⟨a6, ta6, b6, tb6, n6, T9, tr, te, oe, tta, TE, m8, s4, ms, o, u4, nx, tn9, tm, otm, tt, xs, n2⟩ : LawS).Good w src c d e ed own2 ring (now + d6) (j + 1) := LawS.Good.step ⟨by assumption, by assumption, by assumption, hte, htm, ho, hok, htim, hlen, htr0, htr1, hn0, hn1, hn2, hcu, hdu, hou, hnd, hoff⟩ (by assumption) (by assumption)
  refine lawCut F5 src c d e ed own2 ring my mt (now + d6) j own5 ?ev ?rest
  case ev =>
    exact law_ev w mean mg mb h₀ L f cd K0 X T src c d e ed own2 la ring my mt now (now + d6) t3 t2 t1 tnow _ j tj _ _ uu _ own5 hev9 G6 (show tr + 1 ≤ ((j + 1 : Nat) : Int) by omega) hj hr c1 c2 c3 c4 c5 off6 _ _ s F5 N6
  case rest =>
    intro s6 h6
    obtain ⟨S7, h7, tk7, e7, F7, N7, off7, G7⟩ := h6
    subst e7
    exact law_rest w mean mg mb h₀ L f cd K0 X T src c d e ed own2 la ring my mt now (now + d6) t3 t2 t1 tnow _ j tj _ _ uu S7 own own4 own5 G7 hj hm0 hm1 c1 c2 c3 c4 c5 h5 offx off7 h7 tk7 s F7 N7 Q4 hnext4
set_option maxHeartbeats 8000000 in
theorem est_new (w : World) (mean : ExcName → Option Value) (mg mb : Str → Option Value) (h₀ : Heap) (L f : Addr) (cd : Value) (K0 : Below callerA h₀ [] h₀) (X : (hd.heap_39 w.params).In h₀) (T : Top hd.view_39 (looseW hd.view_39 []) mean mg mb h₀)
   (mt : Int) (t1 t2 t3 : Tok) (m : Str → Option Value) (h : Heap) (tk : Nat) (s : Shared) (led : Led) (Q : Value → Shared → Prop) (F : Fr h₀ L h m) (N : News h₀ L h led)
   (hret : ∀ (e ed : Addr) (TE : ET) (h' : Heap) (tk' : Nat), @LT.lt Nat _ ed e → AllLt ed led → Fr h₀ L h' m → News h₀ L h' ((e, instObj 164 ed) :: (ed, estD w TE mt 0 0 0) :: led) → Q (.ref e) { s with heap := h', toks := tk' }) :
   wpAny (model PySem.Challenge.rw_nu0123_01.row.prog w) (callerA.deeper (lawEnv L f cd)) (call (.ref 164) [.int 6 t1, .int 2 t2, .int mt t3]) Q (fun _ _ => False) { s with heap := h, toks := tk } := by
  revert X
  k_fill
  w_top off
  intro X
  change wpAny _ (callerA.deeper (envOf _ (PySem.Scope.mk _ _ _ _ _) _ _ _)) _ _ _ _
  k_steps
  with_reducible rename Fr _ _ _ _ => F9
  with_reducible rename News _ _ _ _ => N9
  refine' hret _ _ ⟨_, _, _, _, _, _, _, _, _, _, _, _⟩ _ _ ?l2 ?l1 F9 N9
  case l2 => assumption
  case l1 => exact allLt_of (by assumption)
set_option maxHeartbeats 8000000 in
theorem clk_new (w : World) (mean : ExcName → Option Value) (mg mb : Str → Option Value) (h₀ : Heap) (L f : Addr) (cd : Value) (K0 : Below callerA h₀ [] h₀) (X : (hd.heap_39 w.params).In h₀) (T : Top hd.view_39 (looseW hd.view_39 []) mean mg mb h₀)
   (e : Addr) (my : Int) (t1 : Tok) (m : Str → Option Value) (h : Heap) (tk : Nat) (s : Shared) (led : Led) (Q : Value → Shared → Prop) (F : Fr h₀ L h m) (N : News h₀ L h led)
   (hret : ∀ (c d : Addr) (T9 : CT) (h' : Heap) (tk' : Nat), @LT.lt Nat _ d c → AllLt d led → Fr h₀ L h' m → News h₀ L h' ((c, instObj 108 d) :: (d, clkD w T9 e my 0 .none 0) :: led) → Q (.ref c) { s with heap := h', toks := tk' }) :
   wpAny (model PySem.Challenge.rw_nu0123_01.row.prog w) (callerA.deeper (lawEnv L f cd)) (call (.ref 108) [.ref e, .int my t1]) Q (fun _ _ => False) { s with heap := h, toks := tk } := by
  revert X
  k_fill
  w_top off
  intro X
  change wpAny _ (callerA.deeper (envOf _ (PySem.Scope.mk _ _ _ _ _) _ _ _)) _ _ _ _
  k_steps
  with_reducible rename Fr _ _ _ _ => F9
  with_reducible rename News _ _ _ _ => N9
  refine' hret _ _ ⟨_, _, _, _, _, _, _, _⟩ _ _ ?l2 ?l1 F9 N9
  case l2 => assumption
  case l1 => exact allLt_of (by assumption)
set_option maxHeartbeats 8000000 in
theorem law_done (w : World) (mean : ExcName → Option Value) (mg mb : Str → Option Value) (h₀ : Heap) (L f : Addr) (cd : Value) (K0 : Below callerA h₀ [] h₀) (X : (hd.heap_39 w.params).In h₀) (T : Top hd.view_39 (looseW hd.view_39 []) mean mg mb h₀)
   (src c d e ed own2 la : Addr) (ring my mt : Int) (t3 t2 t1 : Tok) (j : Nat) (own : Led) (hm0 : 9 ≤ mt) (hm1 : mt ≤ 100000)
   (c1 : @LT.lt Nat _ src ed) (c2 : @LT.lt Nat _ ed e) (c3 : @LT.lt Nat _ e d) (c4 : @LT.lt Nat _ d c) (c5 : @LT.lt Nat _ c own2) (h4 : Heap) (tk4 : Nat) (m4 : Str → Option Value) (news4 : Led) (s : Shared)
   (J4 : LawJ w src c d e ed own2 la ring my mt t3 t2 t1 own j m4 news4) (F4 : Fr h₀ L h4 m4) (N4 : News h₀ L h4 news4) (Q' : Flow → Shared → Prop)
   (hnext : ∀ (h' : Heap) (tk' : Nat) (m₂ : Str → Option Value) (news₂ : Led), Fr h₀ L h' m₂ → News h₀ L h' (news₂ ++ own) → OwnOff own (news₂.map (·.1)) → (news₂ = [] ∧ ∃ u : Str → Option Value, m₂ = fun z => if z = Str.ofString "script" then some (.ref la) else u z) → Q' .next { s with heap := h', toks := tk' }) :
   wpAny (model PySem.Challenge.rw_nu0123_01.row.prog w) (callerA.deeper (lawEnv L f cd)) (execs doneStmts (lawEnv L f cd)) Q' (fun _ _ => False) { s with heap := h4, toks := tk4 } := by
  revert X
  k_fill
  w_top off
  intro X
  change wpAny _ (callerA.deeper (envOf _ (PySem.Scope.mk _ _ _ _ _) _ _ _)) (execs (_ :: _) (envOf _ (PySem.Scope.mk _ _ _ _ _) _ _ _)) _ _ _
  obtain ⟨S, now, tnow, uu, em, en, hxo, G⟩ := J4
  subst em en
  obtain ⟨a, ta, b, tb, n, T9, tr, te, oe, tta, TE, m8, s4, ms, o, u4, nx, tn, tm, otm, tt, xs, n2⟩ := S
  obtain ⟨ha, hb0, hb1, hte, htm, ho, hok, htim, hlen, htr0, htr1, hn0, hn1, hn2, hcu, hdu, hou, hnd, hoff⟩ := G
  dsimp only at ha hb0 hb1 hte htm ho hok htim hlen htr0 htr1 hn0 hn1 hn2 hcu hdu hou hnd hoff
  dsimp only [LawS.led, List.cons_append] at N4 hxo
  have offTl : OwnOff (xs.map Ent.cell ++ own) [src, c, d, e, ed, own2, u4] := off_app hoff (fun p hp b hb => hxo p hp b (by
    simp only [List.map_cons, List.mem_cons, List.not_mem_nil, or_false] at hb ⊢
    rcases hb with h | h | h | h | h | h | h <;> simp [h]))
  generalize hTe : xs.map Ent.cell ++ own = Tl at N4 offTl
  clear hok htim hlen hnd hoff hn0 hn1 htm ho
  k_steps
  · exact absurd rfl (by assumption)
  · with_reducible rename News _ _ _ _ => N8
    with_reducible rename Fr _ _ _ _ => F8
    refine hnext _ _ _ [] F8 (fun p hp => N8 p ?_) (fun _ _ _ hb => nomatch hb) ⟨rfl, _, setSame rfl⟩
    have hT : p ∈ Tl := hTe ▸ List.mem_append_right _ hp
    simp only [List.mem_cons, hT, or_true]
theorem off_two {own : Led} {a b : Addr} (h : OwnOff own [a]) (hl : AllLt b own) : OwnOff own [a, b] := by
  intro p hp x hx
  simp only [List.mem_cons, List.not_mem_nil, or_false] at hx
  rcases hx with rfl | rfl
  · exact h p hp x (List.mem_singleton.mpr rfl)
  · exact Nat.ne_of_lt (allLt_mem hl p hp)
theorem exO {x a : Int} {p : Prop} (_ : x = a ∨ p) : ∃ r, r = x := ⟨_, rfl⟩
theorem lines104 : True := by
  k_with "r off" => repeat' (first | exact off_nil | assumption | (refine offSub (by assumption) ?_; walk_at "r ins"; done) | exact off_two (by assumption) (by simp only [*]) | refine off_cons ?_ ?_ | exact List.forall_mem_nil _ | refine List.forall_mem_cons.mpr ⟨?_, ?_⟩ | k_ne)
  trivial
theorem exLed3 {h₀ h : Heap} {L : Addr} {src u own : Addr} {o1 o2 o3 : Obj} {th : Addr × Obj} {rest : Led} (_ : News h₀ L h ((src, o1) :: th :: (u, o2) :: (own, o3) :: rest)) : (∃ z, z = src) ∧ (∃ z, z = own) ∧ (∃ z, z = u) := ⟨⟨_, rfl⟩, ⟨_, rfl⟩, ⟨_, rfl⟩⟩
theorem lines105 : True := by
  k_with "call ref" => (k_here; (with_reducible show wpAny _ _ (call (Value.ref 164) _) _ _ _); refine stop_here ?_)
  k_with "call ref" => (k_here; (with_reducible show wpAny _ _ (call (Value.ref 108) _) _ _ _); refine stop_here ?_)
  trivial
set_option maxHeartbeats 8000000 in
theorem law_outer (w : World) (mean : ExcName → Option Value) (mg mb : Str → Option Value) (h₀ : Heap) (L f : Addr) (cd : Value) (K0 : Below callerA h₀ [] h₀) (X : (hd.heap_39 w.params).In h₀) (T : Top hd.view_39 (looseW hd.view_39 []) mean mg mb h₀)
   (la : Addr) (vs : List Value) (ns : List Int) (hI : IntsAre vs ns) (hlen0 : ns.length ≤ 63) (hlay : PyData.layable0 (.list (ns.map .int)) = true) (hLs : h₀.IsList la vs.toArray)
   (i : Nat) (ti : Tok) (hi : i < 2) (own : Led) (h2 : Heap) (tk2 : Nat) (u2 : Str → Option Value) (s : Shared)
   (F2 : Fr h₀ L h2 (fun y => if y = Str.ofString "k" then some (.int (i : Int) ti) else if y = Str.ofString "script" then some (.ref la) else u2 y)) (N2 : News h₀ L h2 own) (Q' : Flow → Shared → Prop)
   (hnext : ∀ (h' : Heap) (tk' : Nat) (m₂ : Str → Option Value) (news₂ : Led), Fr h₀ L h' m₂ → News h₀ L h' (news₂ ++ own) → OwnOff own (news₂.map (·.1)) → (news₂ = [] ∧ ∃ u : Str → Option Value, m₂ = fun z => if z = Str.ofString "script" then some (.ref la) else u z) → Q' .next { s with heap := h', toks := tk' }) :
   wpAny (model PySem.Challenge.rw_nu0123_01.row.prog w) (callerA.deeper (lawEnv L f cd)) (execs outerBody (lawEnv L f cd)) Q' (fun _ _ => False) { s with heap := h2, toks := tk2 } := by
  revert X
  k_fill
  w_top off
  intro X
  change wpAny _ (callerA.deeper (envOf _ (PySem.Scope.mk _ _ _ _ _) _ _ _)) (execs (_ :: _) (envOf _ (PySem.Scope.mk _ _ _ _ _) _ _ _)) _ _ _
  k_steps
  refine stop_on ?_
  refine' est_new w mean mg mb h₀ L f cd K0 X T _ _ _ _ _ _ _ _ _ _ ?F ?N ?_
  case F => k_asm
  case N => k_asm
  intro e ed TE h9 tk9 l2 l1 F9 N9
  dsimp only [AllLt] at l1
  (try k_sweep)
  (try dsimp only)
  (try k_fold)
  k_steps
  refine stop_on ?_
  refine' clk_new w mean mg mb h₀ L f cd K0 X T _ _ _ _ _ _ _ _ _ ?F ?N ?_
  case F => k_asm
  case N => k_asm
  intro c d T9 h9 tk9 l2 l1 F9 N9
  dsimp only [AllLt] at l1
  (try k_sweep)
  (try dsimp only)
  (try k_fold)
  k_steps
  refine stop_on ?_
  with_reducible rename IsRange _ _ _ _ _ _ _ _ => R1
  with_reducible rename News _ _ _ _ => N1
  with_reducible rename Fr _ _ _ _ => F1
  with_reducible rename _ < (28 : Int) => h28
  obtain ⟨d28, e28⟩ := exI h28
  subst e28
  with_reducible rename _ = (256 : Int) ∨ _ => hr0
  with_reducible rename _ = (9 : Int) ∨ _ => hm0
  obtain ⟨ring, q1⟩ := exO hr0
  subst q1
  obtain ⟨mt, q1⟩ := exO hm0
  subst q1
  have hr : ring = 256 ∨ ring = 4294967296 := hr0
  have hm1 : mt = 9 ∨ mt = 100 ∨ mt = 100000 := hm0
  have hm9 : 9 ≤ mt := by rcases hm1 with h | h | h <;> (rw [h]; decide)
  have hm8 : mt ≤ 100000 := by rcases hm1 with h | h | h <;> (rw [h]; decide)
  obtain ⟨⟨src, q1⟩, ⟨own2, q2⟩, ⟨u, q3⟩⟩ := exLed3 N1
  subst q1 q2 q3
  have hLt : AllLt ed own := by simp only [*]
  have c1 : @LT.lt Nat _ src ed := by simp only [*]
  have c2 : @LT.lt Nat _ ed e := by assumption
  have c3 : @LT.lt Nat _ e d := by simp only [*]
  have c4 : @LT.lt Nat _ d c := by assumption
  have c5 : @LT.lt Nat _ c own2 := by simp only [*]
  have c7 : @LT.lt Nat _ own2 u := by simp only [*]
  repeat (with_reducible rename _ ∧ _ => q9; clear q9)
  clear hm0 hr0 hm1
  have hxo : OwnOff own [src, c, d, e, ed, own2, u] := own_off (by assumption) hLt c2 c3 c4 c5 (by omega)
  obtain ⟨news1, N3, J3⟩ := lawJ_start (xo := own) (src := src) (c := c) (d := d) (e := e) (ed := ed) (own := own2) (u := u) (T := T9) (TE := TE) F1 N1 (lawM_of rfl rfl rfl rfl rfl rfl rfl rfl rfl) (by k_mem) (by k_mem) (by k_mem) (by k_mem) (by k_mem) (by k_mem) (by dsimp only [OwnIs]; k_asm) (by k_mem) (by assumption) (by assumption) (by assumption) (by omega) (by omega) (by omega) hxo (fun p hp => by simp only [List.mem_cons, hp, or_true])
  clear N1 hLt
  refine range_iter (n := (12 + d28 - 0).toNat) (LawJ _ src c d e ed own2 la ring _ mt _ _ _ own) rfl rfl R1 (small_one (by omega) (by omega) (by omega) (by omega)) (rangeSize_nat 0 _) F1 N3 J3 ?turn ?done
  case done =>
    intro h4 tk4 m4 news4 F4 N4 J4
    exact law_done w mean mg mb h₀ L f cd K0 X T src c d e ed own2 la ring _ mt _ _ _ _ own hm9 hm8 c1 c2 c3 c4 c5 h4 tk4 m4 news4 s J4 F4 N4 Q' hnext
  case turn =>
    intro j tj h4 tk4 own4 m4 news4 hj4 J4 off4 F4 N4 Q4 hnext4
    exact law_turn w mean mg mb h₀ L f cd K0 X T src c d e ed own2 la ring _ mt _ _ _ j tj own own4 (by omega) hr hm9 hm8 c1 c2 c3 c4 c5 h4 tk4 m4 news4 s J4 off4 F4 N4 Q4 hnext4
set_option maxHeartbeats 8000000 in
theorem top0 : PySem.Challenge.rw_nu0123_01.Holds := by
  exact hd (by w_strict (
    k_go0
    all_goals w_top off
    all_goals try k_fold
    refine noE ?_
    k_steps
    refine stop_on ?_
    with_reducible rename IsRange _ _ _ _ _ _ _ _ => R1
    with_reducible rename News _ _ _ _ => N1
    with_reducible rename Fr _ _ _ _ => F1
    with_reducible rename Heap.IsList _ _ _ => hLs
    obtain ⟨la, hla⟩ := exL hLs
    subst hla
    obtain ⟨bb, hbb, R2⟩ := boundB R1
    have hb1 : 1 ≤ bb := by rw [hbb]; split <;> omega
    have hb2 : bb ≤ 2 := by rw [hbb]; (repeat' split) <;> omega
    clear R1
    clear hbb
    refine range_iter (n := (bb - 0).toNat) (fun _ m₁ news₁ => news₁ = [] ∧ ∃ u : Str → Option Value, m₁ = fun z => if z = Str.ofString "script" then some (.ref la) else u z) rfl rfl R2 (small_one (by omega) (by omega) (by omega) (by omega)) (rangeSize_nat 0 bb) F1 N1 ⟨rfl, _, setSame rfl⟩ ?turn ?done
    case done =>
      intro h2 tk2 m2 news2 F2 N2 hj
      clear N1 F1
      obtain ⟨hn2, u2, hm2⟩ := hj
      subst hn2 hm2
      k_steps
    case turn =>
      intro i ti h2 tk2 own m2 news2 hi hj off F2 N2 Q' hnext
      clear N1 F1
      obtain ⟨hn2, u2, hm2⟩ := hj
      subst hn2 hm2
      rw [List.nil_append] at N2
      exact law_outer _ _ _ _ _ _ _ _ (by assumption) (by assumption) (by assumption) la _ _ (by assumption) (by omega) (by assumption) hLs i ti (by omega) own h2 tk2 u2 _ F2 N2 Q' hnext))
end Mine
set_option maxHeartbeats 8000000 in
theorem PySem.Challenge.cw_nu0123_01_holds : PySem.Challenge.rw_nu0123_01.Holds := by
  exact Mine.top0
