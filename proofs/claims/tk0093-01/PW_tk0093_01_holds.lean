import PyProof.Rows.All
import Wide.All
import OpenK.AllK
import Wide.FinOn
import KE.BytesMake
import PySem.Challenge.RW_tk0093_01
open PySem PySem.W PyProof.Rows PySem.Spec PySem.Calls
set_option Elab.async false
set_option maxRecDepth 100000
set_option linter.all false
set_option rowWalk.seconds 0
namespace Mine
/-- the program without the rows that name its parts anew -/
def vw : Program := { PySem.Challenge.rw_tk0093_01.prog with main := { PySem.Challenge.rw_tk0093_01.prog.main with body := (PySem.Challenge.rw_tk0093_01.prog.main.body.zipIdx.filter fun x => !([1, 7, 11, 16].contains x.2)).map (·.1) } }
section
set_option hygiene false in
local macro_rules | `(tactic| o_head $H) => `(tactic| (refine holds_open (q := Mine.vw) (loose := []) (Xt := fun s => xlAt Mine.vw [] s && recOk (RowW.records (OpenRow.toRowW (OpenLaw.row PySem.Challenge.rw_tk0093_01))) s) (XP := XL Mine.vw []) (Yf := Hook.obs $H) (Ya := Hook.val $H) (YP := Hook.says $H) (N := 2546) ?hl (Hook.of $H) (Hook.keeps $H) (fun s e => xl_of s (Bool.and_eq_true_iff.mp e).1) XL.keeps (by rfl) (by rfl) (by rfl) (fun s e => recFacts_of (Bool.and_eq_true_iff.mp e).2) (by rfl) (by first | assumption | decide +kernel) (by decide +kernel) ⟨rfl, rfl, rfl, rfl, rfl, by decide +kernel⟩ ?hw ?hc; (case hl => (intro w; unfold openEnds fencedOpening topFrom; (try rw [PySem.W.Fast.te10274390034422433532, PySem.W.Fast.te14289696077712309145, PySem.W.Fast.te14082659384304107361, PySem.W.Fast.te4187177175401517315, PySem.W.Fast.te1435165496053646825, PySem.W.Fast.te5923862056798008813, PySem.W.Fast.te14364793385576792824]); kernel_rfl))))
set_option maxRecDepth 100000 in
set_option maxHeartbeats 8000000 in
open_top hd for PySem.Challenge.rw_tk0093_01
end
end Mine
namespace Mine
/-- the top lines of the walk are for the head alone -/
theorem quiet : True := by
  w_top off
  trivial
/-- a goal that a stage leaves to the next one -/
structure Hid (P : Prop) : Prop where
  out : P
def Dom1 {A R : Prop} (_ : Hid A → R) : Prop := A
def Dom2 {A B R : Prop} (_ : Hid A → Hid B → R) : Prop := B
def Dom3 {A B C R : Prop} (_ : Hid A → Hid B → Hid C → R) : Prop := C
section
section
variable {prog : Program} {w : World} {A : Around} {E : Value → Shared → Prop} {s : Shared} {value slice : PySem.Expr} {b : Array UInt8} {t : Tok} {h₀ : Heap} {L : Addr} {m : PySem.Str → Option Value} {news : List (Addr × Obj)} {l u : Value} {lo hi : Option Int} {Q : Value → Shared → Prop}
theorem slice_my (hF : Fr h₀ L s.heap m) (hN : News h₀ L s.heap news) (hl : IsPart l lo) (hu : IsPart u hi) (hz : b.size ≤ 16777216)
    (h : ∀ h' t' k, Fr h₀ L h' m → News h₀ L h' news → Q (.bytes (KBy.picked b lo hi) t') { s with heap := h', toks := k })
    (hs : subscripted slice false (.bytes b t) (.ref s.heap.objs.size) = operate [.ref s.heap.objs.size, .bytes b t] (getItem (.bytes b t) (.ref s.heap.objs.size)) := by with_unfolding_all rfl)
    (ht : ∀ r, letTemporaryGo value (.bytes b t) r = pure () := by intro _; with_unfolding_all rfl) :
    wpAny (model prog w) A (subscriptTail value slice (.bytes b t) (.ref s.heap.objs.size)) Q E { s with heap := s.heap.push { cls := .type "slice", data := .fields #[l, u, .none] } } :=
  KBc.slice_K hF hN rfl hl hu (by rw [KBw.ints_length]; exact hz) (fun h' t' k F N _ => h h' t' k F N) hs ht
theorem item_my {i : Int} {ui : Tok} (hz : b.size ≤ 16777216) (h0 : 0 ≤ i) (h1 : i < (b.size : Int))
    (h : ∀ t' k, 0 ≤ (KBw.bInts b).getD i.toNat 0 → (KBw.bInts b).getD i.toNat 0 < 256 → Q (.int ((KBw.bInts b).getD i.toNat 0) t') { s with toks := k })
    (hs : subscripted slice false (.bytes b t) (.int i ui) = operate [.bytes b t, .int i ui] (getItem (.bytes b t) (.int i ui)) := by with_unfolding_all rfl)
    (ht : ∀ r, letTemporaryGo value (.bytes b t) r = pure () := by intro _; with_unfolding_all rfl) : wpAny (model prog w) A (subscriptTail value slice (.bytes b t) (.int i ui)) Q E s :=
  KBw.item_K rfl (by rw [KBw.ints_length]; omega) h0 (by rw [KBw.ints_length]; exact h1) h hs ht
theorem add_my {c : Array UInt8} {u : Tok} (hsz : b.size + c.size ≤ 16777216) (h : ∀ t' k, Q (.bytes (b ++ c) t') { s with toks := k }) : wpAny (model prog w) A (binaryOp .Add (.bytes b t) (.bytes c u)) Q E s :=
  KBy.add_bytes hsz h
theorem make_my {D : Addr} {n : Int} {c : Nat} (F : Fr h₀ L s.heap m) (N : News h₀ L s.heap news) (hh : A.handled = none) (hl : (D, W.listOf #[.int n t] c) ∈ news) (hr : 0 ≤ n ∧ n < 256)
    (h : ∀ h' t' k, Fr h₀ L h' m → News h₀ L h' news → Q (.bytes (byteArr [n]) t') { s with heap := h', toks := k }) : wpAny (model prog w) A (call (.type "bytes") [.ref D]) Q E s :=
  KBa.make_K (vs := [.int n t]) (ns := [n]) F N hh ⟨_, (N _ hl).1, rfl, c, rfl⟩ (.cons n t .nil) (by intro k hk; rw [List.mem_singleton.mp hk]; exact hr) (by simp) (fun h' t' k F' N' _ => h h' t' k F' N')
end
theorem gen_toks {M : Model} {A : Around} {α : Type} {c : Sem α} {Q : α → Shared → Prop} {E : Value → Shared → Prop} {h : Heap} {g : Array GenState} {d : Drawn} {k : Nat} {o : OsState} (hk : ∀ k', wpAny M A c Q E ⟨h, g, d, k', o⟩) : wpAny M A c Q E ⟨h, g, d, k, o⟩ := hk k
theorem picked_size_le {b : Array UInt8} {lo hi : Option Int} {n : Nat} (h : b.size ≤ n) : (KBy.picked b lo hi).size ≤ n := Nat.le_trans (KBc.size_picked_le b lo hi) h
theorem and64 : ∀ n : Nat, n < 64 → 64 &&& n = 0 := by decide
theorem head_byte {x : Int} : Builtin.bitOr 64 (Builtin.bitAnd x 63) = 64 + x % 64 := by
  rw [bitAnd_m6, bitOr_and, bitAnd_pp (by decide) (by omega)]
  have : (64 : Int).toNat &&& (x % 64).toNat = 0 := and64 _ (by omega)
  rw [this]
  omega
theorem head_in {x : Int} : 0 ≤ 64 + x % 64 ∧ 64 + x % 64 < 256 := by omega
section
variable {prog : Program} {w : World} {A : Around} {E : Value → Shared → Prop} {s : Shared} {t : Tok} {h₀ : Heap} {L : Addr} {m : PySem.Str → Option Value} {news : List (Addr × Obj)} {Q : Value → Shared → Prop}
theorem make_head {D : Addr} {x : Int} {c : Nat} (F : Fr h₀ L s.heap m) (N : News h₀ L s.heap news) (hh : A.handled = none) (hl : (D, W.listOf #[.int (Builtin.bitOr 64 (Builtin.bitAnd x 63)) t] c) ∈ news)
    (h : ∀ h' t' k, Fr h₀ L h' m → News h₀ L h' news → Q (.bytes (byteArr [64 + x % 64]) t') { s with heap := h', toks := k }) : wpAny (model prog w) A (call (.type "bytes") [.ref D]) Q E s :=
  make_my F N hh hl (by rw [head_byte]; exact head_in) fun h' t' k F' N' => by
    rw [head_byte]
    exact h h' t' k F' N'
end
/-- what a reset is made of -/
def resArr (wd : Int) (tok fil : Array UInt8) : Array UInt8 := byteArr [64 + (KBw.bInts fil).getD 0 0 % 64] ++ KBy.picked fil (some 1) (some (wd - 16)) ++ tok
end
section
/-- all that stands in h, but at the given places, stands in g -/
def Kept (h : Heap) (adr : List Addr) (g : Heap) : Prop := ∀ b o, h.get? b = some o → b ∉ adr → g.get? b = some o
theorem Kept.trans {h g k : Heap} {adr : List Addr} (a : Kept h adr g) (b : ∀ x o, g.get? x = some o → k.get? x = some o) : Kept h adr k := fun x o e n => b x o (a x o e n)
theorem kept_of {h g : Heap} {adr : List Addr} (e : g = hideAll h adr) : Kept h adr g := fun b o q n => by rw [e]; exact hideAll_get _ q n
section
variable {prog : Program} {w : World} {A₀ A : Around} {s : Shared} {K : Frag} {base h₀ : Heap} {outer : List Env} {L : Addr} {m mg mb : Str → Option Value} {env : Env} {news : List (Addr × Obj)} {p : Program} {loose : List Str} {mean : ExcName → Option Value}
  {R : Result → Shared → Prop} {name qual : Str} {params : Arguments} {body : List Stmt} {scope : Scope} {dV kV doc pm cdv ct oc : Value} {an od : Option Addr} {osl : Array (Option Value)} {f : Addr} {args : Args} {binds : List (Str × Value)}
/-- a def is entered over the ledger's hidden objects alone: the rest of the heap is the ground of its frame -/
theorem code_keep (B : Below A₀ base outer h₀) (F : Fr h₀ L s.heap m) (X₀ : K.In h₀) (N : News h₀ L s.heap news) (T : Top p loose mean mg mb h₀) (hA : A.frames = some (env :: outer)) (hf : env.frame = some L) (hke : env.scope.kind = .function)
    (ho : K.lookup f = some ⟨oc, od, .func (fnOf name qual params body scope dV kV doc pm an cdv ct), osl⟩) (hcd : codeIn K cdv qual = true) (hroom : A.depth < recursionLimit)
    (hbind : BindsTo s (fnOf name qual params body scope dV kV doc pm an cdv ct) args binds) (hloc : ∀ y ∈ binds, scope.names.lookup y.1 = some .local)
    (h : ∀ g L' h₁, g = hideAll s.heap (news.map (·.1)) → Fr h₀ L g m → Fr g L' h₁ (fun y => binds.reverse.lookup y) → News g L' h₁ news → Below A base (env :: outer) g → K.In g → Top p loose mean mg mb g →
      wpAny (model prog w) (A.deeper (envOf qual scope L' f cdv)) (execs body (envOf qual scope L' f cdv))
        (fun fl s' => LeaveK h₀ L m g R (match fl with | .ret v => v | _ => .none) s')
        (fun e s' => wpAny (model prog w) (A.deeper (envOf qual scope L' f cdv)) (leaving (envOf qual scope L' f cdv) e) (fun _ s'' => R (.error e) s'') (fun e' s'' => R (.error e') s'') s')
        { s with heap := h₁, toks := s.toks + binds.length })
    (hco : scope.isCoroutine = false) (hgen : scope.isGenerator = false) (hk : scope.kind = .function)
    (hcell : ∀ x ∈ scope.names, x.2 ≠ .cell) : codeAny (model prog w) A (.call (.ref f) args) R s := by
  have gr := groundX (R := R) B F N hA hf hke
  have hlim := (Top.nolimit T).keeps F.keep
  refine codeAny_call_def (fd := fnOf name qual params body scope dV kV doc pm an cdv ct) (body := body) (binds := binds) hroom ((X₀.keeps F.keep) _ _ ho) rfl hlim (codeRec_of (X₀.keeps F.keep) hcd) rfl hbind hcell hloc (fun h₁ hns hk₁ => ?_) hco hgen hk
  have walk := h (hideAll s.heap (news.map (·.1))) s.heap.objs.size h₁ rfl gr.1
    ⟨hns, fun b o e => hk₁ b o (of_hideAll _ e), Nat.le_of_eq (hideAll_size _ _)⟩
    (fun q hq => ⟨hk₁ _ _ (N q hq).1, Nat.ne_of_lt (Heap.lt_size (N q hq).1), hideAll_none _ (List.mem_map_of_mem hq)⟩) gr.2.1 (X₀.keeps fun b o e => gr.2.2.1 b o e) (T.keeps fun b o e => gr.2.2.1 b o e)
  exact wpAny_mono walk (fun fl s' hl => gr.2.2.2 _ _ hl) fun _ _ y => y
theorem code_keepC (B : Below A₀ base outer h₀) (F : Fr h₀ L s.heap m) (X₀ : K.In h₀) (N : News h₀ L s.heap news) (T : Top p loose mean mg mb h₀) (hA : A.frames = some (env :: outer)) (hf : env.frame = some L) (hke : env.scope.kind = .function)
    (ho : K.lookup f = some ⟨oc, od, .func (fnOf name qual params body scope dV kV doc pm an cdv ct), osl⟩) (hcd : codeIn K cdv qual = true) (hroom : A.depth < recursionLimit)
    (hbind : BindsTo s (fnOf name qual params body scope dV kV doc pm an cdv ct) args binds) (hkind : (binds.all fun y => scope.names.lookup y.1 == some .local || scope.names.lookup y.1 == some .cell) = true)
    (hnd : ((cellsFrom 0 scope.names []).map (·.1)).Nodup)
    (h : ∀ g L' h₁ tk cells, g = hideAll s.heap (news.map (·.1)) → Fr h₀ L g m → Fr g L' h₁ (bindL (envOfC qual scope L' f cdv).kindOf binds fun _ => none) → News g L' h₁ (cells ++ news) →
      CellsAre (bindC (envOfC qual scope L' f cdv).kindOf binds fun _ => none) (cellsFrom (L' + 1) scope.names []) cells → Below A base (env :: outer) g → K.In g → Top p loose mean mg mb g → (∀ p ∈ news, p.1 < L') →
      wpAny (model prog w) (A.deeper (envOfC qual scope L' f cdv)) (execs body (envOfC qual scope L' f cdv))
        (fun fl s' => LeaveK h₀ L m g R (match fl with | .ret v => v | _ => .none) s')
        (fun e s' => wpAny (model prog w) (A.deeper (envOfC qual scope L' f cdv)) (leaving (envOfC qual scope L' f cdv) e) (fun _ s'' => R (.error e) s'') (fun e' s'' => R (.error e') s'') s')
        { s with heap := h₁, toks := tk })
    (hco : scope.isCoroutine = false) (hgen : scope.isGenerator = false) (hk : scope.kind = .function) : codeAny (model prog w) A (.call (.ref f) args) R s := by
  have gr := groundX (R := R) B F N hA hf hke
  have hlim := (Top.nolimit T).keeps F.keep
  refine codeAny_call_function hroom ((X₀.keeps F.keep) _ _ ho) rfl hco hgen rfl (codeRec_of (X₀.keeps F.keep) hcd) (hbind _ _ _ _ ?_)
  refine wpAny_newFunctionEnv_cells hk (kindsX hkind _) fun env' he s' x => ?_
  subst he
  refine ⟨hlim.keeps x.toInCall.keep, codeAny_func ?_⟩
  obtain ⟨h₁, tk, rfl, _⟩ := x.done
  have hk₁ := x.toInCall.keep
  obtain ⟨cells, NC, Y⟩ := Cl.news (h₀ := s.heap) (Nat.le_refl _) fun n c hm => ⟨x.cell n c (lookup_of_mem_nodup (cellsFrom_names scope.names 0 (s.heap.objs.size + 1) [] [] rfl ▸ hnd) hm), x.above n c hm⟩
  have walk := h (hideAll s.heap (news.map (·.1))) s.heap.objs.size h₁ tk cells rfl gr.1 ⟨x.toInCall.ns, fun b o e => hk₁ b o (of_hideAll _ e), Nat.le_of_eq (hideAll_size _ _)⟩
    (fun q hq => by
      rcases List.mem_append.mp hq with hq | hq
      · refine ⟨(NC q hq).1, (NC q hq).2.1, ?_⟩
        cases e : (hideAll s.heap (news.map (·.1))).get? q.1 with
        | none => rfl
        | some o => have z := of_hideAll _ e; rw [(NC q hq).2.2] at z; cases z
      · exact ⟨hk₁ _ _ (N q hq).1, Nat.ne_of_lt (Heap.lt_size (N q hq).1), hideAll_none _ (List.mem_map_of_mem hq)⟩) Y gr.2.1 (X₀.keeps fun b o e => gr.2.2.1 b o e) (T.keeps fun b o e => gr.2.2.1 b o e) fun q hq => Heap.lt_size (N q hq).1
  exact wpAny_mono walk (fun fl s' hl => gr.2.2.2 _ _ hl) fun _ _ y => y
end
/-- what a call does: from a ledger, to an answer and a ledger; all else of the heap is kept -/
def Does (w : World) (n : Nat) (f : Addr) (vs : List Value) (pre : List (Addr × Obj)) (R : Value → List (Addr × Obj) → Prop) : Prop :=
  ∀ (p : Program) (loose : List Str) (mean : ExcName → Option Value) (mg mb : Str → Option Value) (dp un : Nat) (gd : Option (List Code)) (cn : Str) (cs : Scope) (a : Addr) (ccd : Value) (cl : List (Str × Addr)) (outer : List Env) (A₀ : Around) (base h₀ : Heap) (L : Addr) (m : Str → Option Value) (s : Shared) (Q E : Value → Shared → Prop),
    Below A₀ base outer h₀ → Fr h₀ L s.heap m → (Mine.hd.heap_39 w.params).In h₀ → News h₀ L s.heap pre → Top p loose mean mg mb h₀ → cs.kind = .function → dp + n < recursionLimit → un + 10 * n < cLine →
    (∀ r post h' tk', R r post → Kept s.heap (pre.map (·.1)) h' → Fr h₀ L h' m → News h₀ L h' post → Q r { s with heap := h', toks := tk' }) →
    wpAny (model PySem.Challenge.rw_tk0093_01.prog w) (ktrTop dp un gd cn cs L a ccd cl outer) (call (.ref f) vs) Q E s
section
variable {w : World} {n : Nat} {f : Addr} {vs : List Value} {pre news : List (Addr × Obj)} {R : Value → List (Addr × Obj) → Prop}
  {p : Program} {loose : List Str} {mean : ExcName → Option Value} {mg mb : Str → Option Value} {dp un : Nat} {gd : Option (List Code)} {cn : Str} {cs : Scope} {a : Addr} {ccd : Value} {cl : List (Str × Addr)} {outer : List Env} {A₀ : Around} {base h₀ : Heap} {L : Addr} {m : Str → Option Value} {s : Shared} {Q E : Value → Shared → Prop}
theorem Does.use (D : Does w n f vs pre R) (B : Below A₀ base outer h₀) (F : Fr h₀ L s.heap m) (X : (Mine.hd.heap_39 w.params).In h₀) (N : News h₀ L s.heap news) (T : Top p loose mean mg mb h₀) (hk : cs.kind = .function) (hdp : dp + n < recursionLimit) (hun : un + 10 * n < cLine)
    (hsub : ∀ q ∈ pre, q ∈ news) (rest : List (Addr × Obj)) (hrest : ∀ q ∈ rest, q ∈ news ∧ q.1 ∉ pre.map (·.1))
    (hret : ∀ r post h' tk', R r post → Fr h₀ L h' m → News h₀ L h' (post ++ rest) → Q r { s with heap := h', toks := tk' }) :
    wpAny (model PySem.Challenge.rw_tk0093_01.prog w) (ktrTop dp un gd cn cs L a ccd cl outer) (call (.ref f) vs) Q E s := by
  refine D p loose mean mg mb dp un gd cn cs a ccd cl outer A₀ base h₀ L m s Q E B F X (fun q hq => N q (hsub q hq)) T hk hdp hun fun r post h' tk' hR hK F' N' => hret r post h' tk' hR F' fun q hq => ?_
  rcases List.mem_append.mp hq with hq | hq
  · exact N' q hq
  · have h1 := hrest q hq
    have h2 := N q h1.1
    exact ⟨hK _ _ h2.1 h1.2, h2.2⟩
/-- a call that changes nothing that stood -/
theorem Does.read (D : Does w n f vs pre R) (hR : ∀ r post, R r post → ∀ q ∈ pre, q ∈ post) (B : Below A₀ base outer h₀) (F : Fr h₀ L s.heap m) (X : (Mine.hd.heap_39 w.params).In h₀) (N : News h₀ L s.heap news) (T : Top p loose mean mg mb h₀) (hk : cs.kind = .function) (hdp : dp + n < recursionLimit) (hun : un + 10 * n < cLine)
    (hsub : ∀ q ∈ pre, q ∈ news)
    (hret : ∀ r post h' tk', R r post → Fr h₀ L h' m → News h₀ L h' news → Q r { s with heap := h', toks := tk' }) :
    wpAny (model PySem.Challenge.rw_tk0093_01.prog w) (ktrTop dp un gd cn cs L a ccd cl outer) (call (.ref f) vs) Q E s := by
  refine D p loose mean mg mb dp un gd cn cs a ccd cl outer A₀ base h₀ L m s Q E B F X (fun q hq => N q (hsub q hq)) T hk hdp hun fun r post h' tk' hr hK F' N' => hret r post h' tk' hr F' fun q hq => ?_
  have h2 := N q hq
  refine ⟨?_, h2.2⟩
  by_cases hm : q.1 ∈ pre.map (·.1)
  · obtain ⟨z, hz, e⟩ := List.mem_map.mp hm
    have h3 := (N z (hsub z hz)).1
    have h4 := (N' z (hR r post hr z hz)).1
    rw [e] at h3 h4
    rw [h4, ← h3, h2.1]
  · exact hK _ _ h2.1 hm
end
section
variable {w : World} {n : Nat} {f : Addr} {vs : List Value} {pre X news : List (Addr × Obj)} {R : Value → List (Addr × Obj) → Prop}
  {p : Program} {loose : List Str} {mean : ExcName → Option Value} {mg mb : Str → Option Value} {dp un : Nat} {gd : Option (List Code)} {cn : Str} {cs : Scope} {a : Addr} {ccd : Value} {cl : List (Str × Addr)} {env : Env} {outer : List Env} {A₀ A : Around} {base h₀ g : Heap} {L : Addr} {m : Str → Option Value} {s : Shared} {Q E : Value → Shared → Prop}
/-- objects of the ground that may be given back to a callee's ledger -/
def FrzAt (h₀ g : Heap) (A : Around) (base : Heap) (envs : List Env) (X : List (Addr × Obj)) : Prop :=
  ∃ gx : Heap, Below A base envs gx ∧ (∀ b o, h₀.get? b = some o → gx.get? b = some o) ∧ (∀ b o, gx.get? b = some o → g.get? b = some o) ∧ (∀ q ∈ X, gx.get? q.1 = none ∧ g.get? q.1 = some q.2) ∧ gx.objs.size = g.objs.size
theorem frz_of (B : Below A₀ base outer h₀) (F : Fr h₀ L s.heap m) (N : News h₀ L s.heap news) (hA : A.frames = some (env :: outer)) (hf : env.frame = some L) (hke : env.scope.kind = .function)
    (hpre : ∀ q ∈ pre, q ∈ news) (hX : ∀ q ∈ X, q ∈ news) (hd : ∀ q ∈ X, q.1 ∉ pre.map (·.1)) (hg : g = hideAll s.heap (pre.map (·.1))) : FrzAt h₀ g A base (env :: outer) X := by
  have N₂ : News h₀ L s.heap (pre ++ X) := fun q hq => N q ((List.mem_append.mp hq).elim (hpre q) (hX q))
  have gr := groundX (R := fun _ _ => True) B F N₂ hA hf hke
  refine ⟨hideAll s.heap ((pre ++ X).map (·.1)), gr.2.1, fun b o e => gr.2.2.1 b o e, fun b o e => ?_, fun q hq => ⟨hideAll_none _ (List.mem_map_of_mem (List.mem_append_right _ hq)), ?_⟩, by rw [hg, hideAll_size, hideAll_size]⟩
  · rw [hg]
    refine hideAll_get _ (of_hideAll _ e) fun hb => ?_
    rw [hideAll_none _ (by rw [List.map_append]; exact List.mem_append_left _ hb)] at e
    cases e
  · rw [hg]
    exact hideAll_get _ (N q (hX q hq)).1 (hd q hq)
theorem FrzAt.get {envs : List Env} (Z : FrzAt h₀ g A base envs X) {b : Addr} {o : Obj} (h : (b, o) ∈ X) : g.get? b = some o := by
  obtain ⟨_, _, _, _, z, _⟩ := Z
  exact (z _ h).2
/-- a call that only reads, of objects of the ground -/
theorem Does.ground (D : Does w n f vs X R) (hR : ∀ r post, R r post → ∀ q ∈ X, q ∈ post) (Z : FrzAt h₀ g A₀ base outer X) (F : Fr g L s.heap m) (X₀ : (Mine.hd.heap_39 w.params).In h₀) (N : News g L s.heap news) (T : Top p loose mean mg mb h₀) (hk : cs.kind = .function) (hdp : dp + n < recursionLimit) (hun : un + 10 * n < cLine)
    (hret : ∀ r post h' tk', R r post → Fr g L h' m → News g L h' news → Q r { s with heap := h', toks := tk' }) :
    wpAny (model PySem.Challenge.rw_tk0093_01.prog w) (ktrTop dp un gd cn cs L a ccd cl outer) (call (.ref f) vs) Q E s := by
  obtain ⟨gx, B, st, sub, z, hsz⟩ := Z
  have Fx : Fr gx L s.heap m := ⟨F.ns, fun b o e => F.keep b o (sub b o e), by rw [hsz]; exact F.above⟩
  have Nx : News gx L s.heap X := fun q hq => ⟨F.keep _ _ (z q hq).2, Nat.ne_of_lt (Nat.lt_of_lt_of_le (Heap.lt_size (z q hq).2) F.above), (z q hq).1⟩
  refine D p loose mean mg mb dp un gd cn cs a ccd cl outer A₀ base gx L m s Q E B Fx (X₀.keeps st) Nx (T.keeps st) hk hdp hun fun r post h' tk' hr hK F' N' => hret r post h' tk' hr ⟨F'.ns, fun b o e => ?_, F.above⟩ fun q hq => ⟨hK _ _ (N q hq).1 fun hm => ?_, (N q hq).2⟩
  · by_cases hm : b ∈ X.map (·.1)
    · obtain ⟨q, hq, rfl⟩ := List.mem_map.mp hm
      have e2 := (z q hq).2
      rw [e] at e2
      cases e2
      exact (N' q (hR r post hr q hq)).1
    · exact hK _ _ (F.keep _ _ e) hm
  · obtain ⟨q', hq', e⟩ := List.mem_map.mp hm
    have e1 := (z q' hq').2
    rw [e, (N q hq).2.2] at e1
    cases e1
end
end
section
section
variable {d : Nat} {tok fil b : Array UInt8}
theorem pk (b : Array UInt8) (lo hi : Option Int) : (KBy.picked b lo hi).toList = (b.toList.drop (lo.elim 0 (clipAt b.size))).take (hi.elim b.size (clipAt b.size) - lo.elim 0 (clipAt b.size)) := by
  rw [KBc.picked_eq]
theorem pk_size (b : Array UInt8) (lo hi : Option Int) : (KBy.picked b lo hi).size = min (hi.elim b.size (clipAt b.size) - lo.elim 0 (clipAt b.size)) (b.size - lo.elim 0 (clipAt b.size)) := by
  rw [← Array.length_toList, pk, List.length_take, List.length_drop, Array.length_toList]
theorem clip_of {n : Nat} {i : Int} {k : Nat} (h0 : i = (k : Int)) (h1 : k ≤ n) : clipAt n i = k := by
  rw [h0, clipAt_nat]; omega
theorem pk_hi {b : Array UInt8} {i : Int} {k : Nat} (h : i = (k : Int)) (hk : k ≤ b.size) : (KBy.picked b none (some i)).toList = b.toList.take k := by
  rw [pk]
  show (b.toList.drop 0).take (clipAt b.size i - 0) = _
  rw [clip_of h hk, List.drop_zero, Nat.sub_zero]
theorem pk_lo {b : Array UInt8} {i : Int} {k : Nat} (h : i = (k : Int)) (hk : k ≤ b.size) : (KBy.picked b (some i) none).toList = b.toList.drop k := by
  rw [pk]
  show (b.toList.drop (clipAt b.size i)).take (b.size - clipAt b.size i) = _
  rw [clip_of h hk, List.take_of_length_le]
  rw [List.length_drop, Array.length_toList]
  exact Nat.le_refl _
theorem pk_mid {b : Array UInt8} {i : Int} {k : Nat} (h : i = (k : Int)) (hk : k ≤ b.size) (h1 : 1 ≤ k) : (KBy.picked b (some 1) (some i)).toList = (b.toList.drop 1).take (k - 1) := by
  rw [pk]
  show (b.toList.drop (clipAt b.size 1)).take (clipAt b.size i - clipAt b.size 1) = _
  have e1 : clipAt b.size 1 = 1 := clip_of (k := 1) rfl (by omega)
  rw [clip_of h hk, e1]
theorem hi_size {b : Array UInt8} {i : Int} {k : Nat} (h : i = (k : Int)) (hk : k ≤ b.size) : (KBy.picked b none (some i)).size = k := by
  rw [← Array.length_toList, pk_hi h hk, List.length_take, Array.length_toList]; omega
theorem lo_size {b : Array UInt8} {i : Int} {k : Nat} (h : i = (k : Int)) (hk : k ≤ b.size) : (KBy.picked b (some i) none).size = b.size - k := by
  rw [← Array.length_toList, pk_lo h hk, List.length_drop, Array.length_toList]
theorem getD_head (b : Array UInt8) : (KBw.bInts b).getD 0 0 = ((b.toList.getD 0 0).toNat : Int) := (KBw.getD_ints b.toList 0).symm
/-- the octets of a reset, as a list -/
theorem res_list {due : Int} (hd : due = (d : Int)) (h1 : 21 ≤ d) (hf : d - 16 ≤ fil.size) :
    (resArr due tok fil).toList = (byteArr [64 + (KBw.bInts fil).getD 0 0 % 64]).toList ++ (fil.toList.drop 1).take (d - 16 - 1) ++ tok.toList := by
  unfold resArr
  rw [Array.toList_append, Array.toList_append, pk_mid (k := d - 16) (by omega) hf (by omega)]
theorem res_size {due : Int} (hd : due = (d : Int)) (h1 : 21 ≤ d) (hf : d - 16 ≤ fil.size) (ht : tok.size = 16) : (resArr due tok fil).size = d := by
  rw [← Array.length_toList, res_list hd h1 hf]
  simp only [List.length_append, Array.length_toList, byteArr_size, List.length_take, List.length_drop, List.length_cons, List.length_nil, ht]
  omega
theorem arr_of_list {a b : Array UInt8} (h : a.toList = b.toList) : a = b := by
  cases a; cases b; exact congrArg _ h
theorem byte_list1 (n : Int) : (byteArr [n]).toList = [n.toNat.toUInt8] := rfl
theorem res_mid {due i : Int} (hd : due = (d : Int)) (hi : i = due - 16) (h1 : 21 ≤ d) (hf : d - 16 ≤ fil.size) (ht : tok.size = 16) : KBy.picked (resArr due tok fil) (some 1) (some i) = KBy.picked fil (some 1) (some i) := by
  apply arr_of_list
  have hs := res_size hd h1 hf ht
  rw [pk_mid (k := d - 16) (by omega) (by omega) (by omega), pk_mid (k := d - 16) (by omega) hf (by omega), res_list hd h1 hf, byte_list1]
  simp only [List.cons_append, List.nil_append, List.drop_succ_cons, List.drop_zero]
  rw [List.take_append_of_le_length (by rw [List.length_take, List.length_drop, Array.length_toList]; omega), List.take_take]
  congr 1
  omega
theorem res_tail {due i : Int} (hd : due = (d : Int)) (hi : i = due - 16) (h1 : 21 ≤ d) (hf : d - 16 ≤ fil.size) (ht : tok.size = 16) : KBy.picked (resArr due tok fil) (some i) none = tok := by
  apply arr_of_list
  have hs := res_size hd h1 hf ht
  rw [pk_lo (k := d - 16) (by omega) (by omega), res_list hd h1 hf, List.drop_append_of_le_length (by simp only [List.length_append, Array.length_toList, byteArr_size, List.length_take, List.length_drop, List.length_cons, List.length_nil]; omega)]
  rw [List.drop_eq_nil_of_le (by simp only [List.length_append, Array.length_toList, byteArr_size, List.length_take, List.length_drop, List.length_cons, List.length_nil]; omega)]
  rfl
theorem res_head {due : Int} : (KBw.bInts (resArr due tok fil)).getD 0 0 = 64 + (KBw.bInts fil).getD 0 0 % 64 := by
  unfold resArr
  rw [KBw.ints_app (KBw.ints_app rfl rfl) rfl, KBa.ints_make (ns := [64 + (KBw.bInts fil).getD 0 0 % 64]) (fun n hn => by rw [List.mem_singleton.mp hn]; exact head_in)]
  rfl
theorem head_pk {i : Int} {k : Nat} (h : i = (k : Int)) (hk : k ≤ fil.size) (h1 : 1 ≤ k) : (KBw.bInts (KBy.picked fil none (some i))).getD 0 0 = (KBw.bInts fil).getD 0 0 := by
  rw [getD_head, getD_head, pk_hi h hk]
  congr 2
  rw [List.getD_eq_getElem?_getD, List.getD_eq_getElem?_getD, List.getElem?_take]
  simp only [show 0 < k from h1, if_true]
theorem res_cut {due i : Int} (hd : due = (d : Int)) (hi : i = due - 16) (h1 : 21 ≤ d) (hf : d - 16 ≤ fil.size) : resArr due tok (KBy.picked fil none (some i)) = resArr due tok fil := by
  have hk : i = ((d - 16 : Nat) : Int) := by omega
  have e := pk_hi hk hf
  have hs := hi_size hk hf
  apply arr_of_list
  rw [res_list hd h1 (by omega), res_list hd h1 hf, head_pk hk hf (by omega), e]
  congr 2
  rw [List.drop_take, List.take_take]
  congr 1
  omega
end
theorem nei_same {prog : Program} {w : World} {A : Around} {E : Value → Shared → Prop} {s : Shared} {b c : Int} {t u : Tok} {Q : Value → Shared → Prop} (e : b = c) (h : Q (.bool false) s) : wpAny (model prog w) A (compareOp .NotEq (.int b t) (.int c u)) Q E s := by
  subst e
  refine ne_int ?_
  rw [show (b != b) = false from by simp]
  exact h
theorem neb_same {prog : Program} {w : World} {A : Around} {E : Value → Shared → Prop} {s : Shared} {b c : Array UInt8} {t u : Tok} {Q : Value → Shared → Prop} (e : b = c) (h : Q (.bool false) s) : wpAny (model prog w) A (compareOp .NotEq (.bytes b t) (.bytes c u)) Q E s := by
  subst e
  refine ne_bytes ?_
  rw [show (b.toList != b.toList) = false from by simp]
  exact h
theorem eqb_same {prog : Program} {w : World} {A : Around} {E : Value → Shared → Prop} {s : Shared} {b c : Array UInt8} {t u : Tok} {Q : Value → Shared → Prop} (e : b = c) (h : Q (.bool true) s) : wpAny (model prog w) A (compareOp .Eq (.bytes b t) (.bytes c u)) Q E s := by
  subst e
  refine eq_bytes ?_
  rw [show (b.toList == b.toList) = true from by simp]
  exact h
theorem eqb_not {prog : Program} {w : World} {A : Around} {E : Value → Shared → Prop} {s : Shared} {b c : Array UInt8} {t u : Tok} {Q : Value → Shared → Prop} (e : b ≠ c) (h : Q (.bool false) s) : wpAny (model prog w) A (compareOp .Eq (.bytes b t) (.bytes c u)) Q E s := by
  refine eq_bytes ?_
  rw [show (b.toList == c.toList) = false from by
    cases q : b.toList == c.toList with
    | false => rfl
    | true => exact absurd (arr_of_list (beq_iff_eq.mp q)) e]
  exact h
end
section
abbrev ent (w : World) (n : String) (t : Tok) (v : Value) : DictEntry := { hash := PyData.keyHash w.params (Str.ofString n), key := Value.str (Str.ofString n) t, val := v }
/-- what else an end's ids hold, and the tokens of the keys -/
structure RF where
  (t0 t1 t2 t3 t4 t5 t6 t7 : Tok)
  (lim cu rp to tr em : Value)
/-- the fields of an end's ids, as the call writes them -/
abbrev remEs (w : World) (r : RF) (kn us : Value) : List DictEntry :=
  [ent w "limit" r.t0 r.lim, ent w "known" r.t1 kn, ent w "current" r.t2 r.cu, ent w "used" r.t3 us, ent w "retire_prior" r.t4 r.rp, ent w "told" r.t5 r.to, ent w "to_retire" r.t6 r.tr, ent w "is_empty" r.t7 r.em]
abbrev tup (vs : List Value) : Obj := { cls := Value.type "tuple", data := Data.seq vs.toArray }
/-- an end's ids: the object, its fields, what it knows, what it used, the id and its token -/
abbrev sh (w : World) (x dx kd ul tp : Addr) (ko : Obj) (r : RF) (us : List Value) (n : Nat) (c : Array UInt8) (tc : Tok) (tk : Value) : List (Addr × Obj) :=
  [(x, instObj 145 dx), (dx, dictOf (remEs w r (.ref kd) (.ref ul)) 8), (kd, ko), (ul, W.listOf us.toArray n), (tp, tup [.bytes c tc, tk])]
/-- a token that is held, compared with the octets at an end -/
def Cmp (w : World) (tk : Value) (tl : Array UInt8) (v : Bool) : Prop := ∀ (A : Around) (s : Shared) (Q E : Value → Shared → Prop) (t : Tok), Q (.bool v) s → wpAny (model PySem.Challenge.rw_tk0093_01.prog w) A (compareOp .Eq tk (.bytes tl t)) Q E s
theorem Cmp.go {w : World} {tk : Value} {tl : Array UInt8} {v : Bool} (c : Cmp w tk tl v) {A : Around} {s : Shared} {Q E : Value → Shared → Prop} {t : Tok} (h : Q (.bool v) s) : wpAny (model PySem.Challenge.rw_tk0093_01.prog w) A (compareOp .Eq tk (.bytes tl t)) Q E s := c A s Q E t h
theorem Cmp.same {w : World} {b tl : Array UInt8} {u : Tok} (e : b = tl) : Cmp w (.bytes b u) tl true := fun _ _ _ _ _ h => eqb_same e h
theorem Cmp.other {w : World} {b tl : Array UInt8} {u : Tok} (e : b ≠ tl) : Cmp w (.bytes b u) tl false := fun _ _ _ _ _ h => eqb_not e h
section
theorem sub_bn : isSubtype (.type "bytes") (.type "NoneType") = pure false := by kernel_rfl
theorem sub_nb : isSubtype (.type "NoneType") (.type "bytes") = pure false := by kernel_rfl
theorem none_eq_bytes (b : Array UInt8) (t : Tok) : Gives (Builtin.«NoneType.__eq__» ⟨[.none, .bytes b t], []⟩) (.val (Value.notImplemented)) :=
  .of_wp fun M A E s Q h => by obtain ⟨hp, g, d, tk, os⟩ := s; wp_walk; exact ⟨_, rfl, h⟩
theorem bytes_eq_none (b : Array UInt8) (t : Tok) : Gives (Builtin.«bytes.__eq__» ⟨[.bytes b t, .none], []⟩) (.val (Value.notImplemented)) := by
  refine .of_wp fun M A E s Q hq => ?_
  show wpAny M A (isInstance .none (.type "bytes") >>= fun r => _) _ E s
  refine wpAny_bind (wpAny_isInstance (v := .none) (T := "NoneType") rfl sub_nb ?_)
  show wpAny M A (do rule _; return ← ret .notImplemented) _ E s
  refine wpAny_bind (wpAny_rule ?_)
  exact wpAny_pure ⟨_, rfl, hq⟩
theorem slot_bytes_refl : Slot "bytes" (cmpInfo .Eq).2.2 "bytes.__eq__" := FB.slot_bytes_eq
theorem eq_none_bytes {prog : Program} {w : World} {A : Around} {E : Value → Shared → Prop} {s : Shared} {Q : Value → Shared → Prop} {b : Array UInt8} {t : Tok} (h : Q (.bool false) s) : wpAny (model prog w) A (compareOp .Eq .none (.bytes b t)) Q E s := by
  show wpAny _ A (richCompare .Eq _ _) Q E s
  exact EqNone.wpAny_richCompare_eq_decline (k := false) (fun _ => rfl) (fun s' => typeIs_bytes s' b t) (by decide) sub_bn F.slot_NoneType_eq slot_bytes_refl rfl
    (call_gives F.slot_NoneType_eq rfl F.entry_NoneType_eq (F.args_NoneType_eq_2 _ _) (none_eq_bytes b t)
      ⟨rfl, call_gives slot_bytes_refl (typeIs_bytes s b t) FB.entry_bytes_eq (FB.args_bytes_eq_2 _ _) (bytes_eq_none b t) ⟨rfl, h⟩⟩)
theorem Cmp.none {w : World} {tl : Array UInt8} : Cmp w .none tl false := fun _ _ _ _ _ h => eq_none_bytes h
end
/-- one that holds ids: where its parts stand, and what they hold besides -/
structure Rm where
  (x dx kd ul tp tq : Addr) (ko : Obj) (rf : RF) (tu tv tc tt : Tok) (n : Nat) (c : Array UInt8)
abbrev Rm.led (w : World) (r : Rm) (us : List Value) (tk : Value) : List (Addr × Obj) := sh w r.x r.dx r.kd r.ul r.tp r.ko r.rf us r.n r.c r.tc tk
/-- the four that hear all, of one token -/
structure Hs where
  (v a b : Addr) (na nb : Nat) (f l n z : Rm)
abbrev zeros : Array UInt8 := #[0, 0, 0, 0, 0, 0, 0, 0, 0, 0, 0, 0, 0, 0, 0, 0]
abbrev Hs.led (w : World) (h : Hs) (tok : Array UInt8) : List (Addr × Obj) :=
  (h.v, tup [.ref h.a, .ref h.b]) :: (h.a, W.listOf #[.ref h.f.x, .ref h.l.x] h.na) :: (h.b, W.listOf #[.ref h.n.x, .ref h.z.x] h.nb) ::
    (h.f.led w [.int 0 h.f.tu] (.bytes tok h.f.tt) ++ (h.l.led w [.int 0 h.l.tu, .int 1 h.l.tv] (.bytes tok h.l.tt) ++ (h.n.led w [.int 0 h.n.tu] .none ++ h.z.led w [.int 0 h.z.tu, .int 1 h.z.tv] (.bytes zeros h.z.tt))))
structure Hs.Ok (w : World) (h : Hs) : Prop where
  f : h.f.ko.IsDictOf (intKind PySem.Challenge.rw_tk0093_01.prog w) [(0, .ref h.f.tp)]
  l : h.l.ko.IsDictOf (intKind PySem.Challenge.rw_tk0093_01.prog w) [(1, .ref h.l.tp)]
  n : h.n.ko.IsDictOf (intKind PySem.Challenge.rw_tk0093_01.prog w) [(0, .ref h.n.tp), (1, .ref h.n.tq)]
  z : h.z.ko.IsDictOf (intKind PySem.Challenge.rw_tk0093_01.prog w) [(1, .ref h.z.tp)]
  fm : (h.f.kd == sysModules) = false
  lm : (h.l.kd == sysModules) = false
  nm : (h.n.kd == sysModules) = false
  zm : (h.z.kd == sysModules) = false
end
section
/-- a list or tuple whose first item is an object -/
def refs (o : Obj) : Bool := match o.data with
  | .seq xs _ => (match xs[0]? with | some (Value.ref _) => true | _ => false)
  | _ => false
theorem refs_dict {K : Type} [DecidableEq K] {prog : Program} {w : World} {knd : KeyKind prog w K} {o : Obj} {kvs : List (K × Value)} (h : o.IsDictOf knd kvs) : refs o = false := by
  obtain ⟨es, ep, _, hd, _⟩ := h
  unfold refs
  rw [hd]
theorem refs_apart {h₀ h : Heap} {L : Addr} {news pre X : List (Addr × Obj)} (N : News h₀ L h news) (hpre : ∀ q ∈ pre, q ∈ news) (hX : ∀ q ∈ X, q ∈ news) (c1 : ∀ q ∈ X, refs q.2 = false) (c2 : ∀ q ∈ pre, refs q.2 = true) : ∀ q ∈ X, q.1 ∉ pre.map (·.1) := by
  intro q hq hm
  obtain ⟨r, hr, e⟩ := List.mem_map.mp hm
  have h1 := (N q (hX q hq)).1
  have h2 := (N r (hpre r hr)).1
  rw [e, h1] at h2
  have h3 := c1 q hq
  rw [Option.some.inj h2, c2 r hr] at h3
  cases h3
theorem refs_sh {w : World} {x dx kd ul tp : Addr} {ko : Obj} {r : RF} {us : List Value} {n : Nat} {c : Array UInt8} {tc : Tok} {tk : Value} (hk : refs ko = false) (hu : refs (W.listOf us.toArray n) = false) : ∀ q ∈ sh w x dx kd ul tp ko r us n c tc tk, refs q.2 = false := by
  intro q hq
  simp only [sh, List.mem_cons, List.not_mem_nil, or_false] at hq
  rcases hq with rfl | rfl | rfl | rfl | rfl
  · rfl
  · rfl
  · exact hk
  · exact hu
  · rfl
theorem inst_get {h g : Heap} {L x dx C : Addr} {m : Str → Option Value} {od : Obj} (F : Fr g L h m) (h1 : g.get? x = some (instObj C dx)) (h2 : g.get? dx = some od) : InstAt h x (instObj C dx) C (some od) :=
  ⟨F.keep _ _ h1, rfl, rfl, F.keep _ _ h2⟩
structure Box (P : Prop) : Prop where
  out : P
theorem news_back {h₀ h h' : Heap} {L : Addr} {news pre : List (Addr × Obj)} (N : News h₀ L h news) (hsub : ∀ q ∈ pre, q ∈ news) (hK : Kept h (pre.map (·.1)) h') (N' : News h₀ L h' pre) : News h₀ L h' news := fun q hq => by
  have h2 := N q hq
  refine ⟨?_, h2.2⟩
  by_cases hm : q.1 ∈ pre.map (·.1)
  · obtain ⟨z, hz, e⟩ := List.mem_map.mp hm
    have h3 := (N z (hsub z hz)).1
    have h4 := (N' z hz).1
    rw [e] at h3 h4
    rw [h4, ← h3, h2.1]
  · exact hK _ _ h2.1 hm
end
section
/-- a token's octets -/
def tokL (seed place more : Int) : List Int :=
  ((rangeKs 0 ((16 : Int) - 0).toNat).map fun k' => (seed * (k' + 3) + 17 * k').fmod 256).set place.toNat (((seed * (0 + place + 3) + 17 * (0 + place)).fmod 256 + more).fmod 256)
theorem tokL_in (seed place more : Int) : KBa.In (tokL seed place more) := by
  intro n hn
  rcases List.mem_or_eq_of_mem_set hn with h | h
  · obtain ⟨k, _, e⟩ := List.mem_map.mp h
    subst e
    exact ⟨Int.fmod_nonneg_of_pos _ (by decide), Int.fmod_lt_of_pos _ (by decide)⟩
  · subst h
    exact ⟨Int.fmod_nonneg_of_pos _ (by decide), Int.fmod_lt_of_pos _ (by decide)⟩
theorem tokL_length (seed place more : Int) : (tokL seed place more).length = 16 := by
  unfold tokL
  rw [List.length_set, List.length_map, rangeKs_length]
  rfl
theorem tok_size (seed place more : Int) : (byteArr (tokL seed place more)).size = 16 := by rw [byteArr_size, tokL_length]
/-- the turn at which the answers end -/
def MostIs (M a b v : Int) : Prop := v ≤ M ∧ (v = M ∨ (1 ≤ v ∧ [a, b].getD (v.fmod 2).toNat 0 ≤ v)) ∧ ∀ k : Int, 1 ≤ k → k ≤ M → [a, b].getD (k.fmod 2).toNat 0 ≤ k → v ≤ k
theorem fold_mem {p : Int → Prop} [DecidablePred p] {x : Int} : ∀ (ks l : List Int), x ∈ ks.foldl (fun l' k' => if p k' then l' ++ [k'] else l') l ↔ x ∈ l ∨ (x ∈ ks ∧ p x)
  | [], l => by simp
  | k :: r, l => by
    rw [List.foldl_cons, fold_mem r]
    by_cases h : p k
    · rw [if_pos h, List.mem_append, List.mem_singleton, List.mem_cons]
      constructor
      · rintro ((h1 | rfl) | h1)
        · exact .inl h1
        · exact .inr ⟨.inl rfl, h⟩
        · exact .inr ⟨.inr h1.1, h1.2⟩
      · rintro (h1 | ⟨rfl | h1, h2⟩)
        · exact .inl (.inl h1)
        · exact .inl (.inr rfl)
        · exact .inr ⟨h1, h2⟩
    · rw [if_neg h, List.mem_cons]
      constructor
      · rintro (h1 | h1)
        · exact .inl h1
        · exact .inr ⟨.inr h1.1, h1.2⟩
      · rintro (h1 | ⟨rfl | h1, h2⟩)
        · exact .inl h1
        · exact absurd h2 h
        · exact .inr ⟨h1, h2⟩
theorem range_mem {x M : Int} (hM : 0 ≤ M) : x ∈ rangeKs 1 (M + 1 - 1).toNat ↔ 1 ≤ x ∧ x ≤ M := by
  constructor
  · intro h
    have := mem_rangeKs h
    omega
  · intro h
    exact List.mem_map.mpr ⟨(x - 1).toNat, List.mem_range.mpr (by omega), by omega⟩
theorem most_is {a b M v : Int} (hM : 0 ≤ M) (h1 : v ∈ [M] ++ List.foldl (fun l' k' => if [a, b].getD (k'.fmod 2).toNat 0 ≤ k' then l' ++ [k'] else l') [] (rangeKs 1 (M + 1 - 1).toNat))
    (h2 : ∀ x ∈ [M] ++ List.foldl (fun l' k' => if [a, b].getD (k'.fmod 2).toNat 0 ≤ k' then l' ++ [k'] else l') [] (rangeKs 1 (M + 1 - 1).toNat), v ≤ x) : MostIs M a b v := by
  refine ⟨h2 M (by simp), ?_, fun k hk1 hk2 hk3 => h2 k (List.mem_append_right _ ((fold_mem _ _).mpr (.inr ⟨(range_mem hM).mpr ⟨hk1, hk2⟩, hk3⟩)))⟩
  rcases List.mem_append.mp h1 with h | h
  · exact .inl (List.mem_singleton.mp h)
  · rcases (fold_mem _ _).mp h with h | ⟨h3, h4⟩
    · exact absurd h List.not_mem_nil
    · exact .inr ⟨((range_mem hM).mp h3).1, h4⟩
end
section
section
variable {prog : Program} {w : World} {A : Around} {E : Value → Shared → Prop} {s : Shared} {h₀ : Heap} {L d : Addr} {m : Str → Option Value} {news : List (Addr × Obj)} {o : Obj} {k1 k2 : Int} {x y : Value} {Q : Value → Shared → Prop}
theorem sorted_two (hh : A.handled = none) (F : Fr h₀ L s.heap m) (N : News h₀ L s.heap news) (hm : (d, o) ∈ news) (hd : o.IsDictOf (intKind prog w) [(k1, x), (k2, y)]) (lo : (d == sysModules) = false)
    (h : ∀ D h' tk t1 t2, Fr h₀ L h' m → News h₀ L h' ((D, W.listOf #[.int k1 t1, .int k2 t2] 0) :: news) → (∀ q ∈ news, q.1 < D) →
      wpAny (model prog w) A.in1 (call (.builtin "list.sort") [.ref D]) (fun _ s' => Q (.ref D) s') E { s with heap := h', toks := tk }) :
    wpAny (model prog w) A (call (.builtin "sorted") [.ref d]) Q E s := by
  obtain ⟨ep, hat⟩ := (kda_dict N hm hd).dictAt
  refine kdu_sorted (kdl_dict (knd := intKind prog w) (kvs := [(k1, x), (k2, y)]) (ep := ep) lo) hh F N hat (kdl_size (by simp)) fun D h' tk vs F' N' l1 hl hv => ?_
  match vs, hl with
  | [a, b], _ =>
    obtain ⟨_, _, e1, hk1⟩ := hv 0 a rfl
    obtain ⟨_, _, e2, hk2⟩ := hv 1 b rfl
    cases e1
    cases e2
    obtain ⟨t1, rfl⟩ := Value.isInt_shape hk1
    obtain ⟨t2, rfl⟩ := Value.isInt_shape hk2
    exact h D h' tk t1 t2 F' N' l1
theorem sorted_one (hh : A.handled = none) (F : Fr h₀ L s.heap m) (N : News h₀ L s.heap news) (hm : (d, o) ∈ news) (hd : o.IsDictOf (intKind prog w) [(k1, x)]) (lo : (d == sysModules) = false)
    (h : ∀ D h' tk t1, Fr h₀ L h' m → News h₀ L h' ((D, W.listOf #[.int k1 t1] 0) :: news) → (∀ q ∈ news, q.1 < D) →
      wpAny (model prog w) A.in1 (call (.builtin "list.sort") [.ref D]) (fun _ s' => Q (.ref D) s') E { s with heap := h', toks := tk }) :
    wpAny (model prog w) A (call (.builtin "sorted") [.ref d]) Q E s := by
  obtain ⟨ep, hat⟩ := (kda_dict N hm hd).dictAt
  refine kdu_sorted (kdl_dict (knd := intKind prog w) (kvs := [(k1, x)]) (ep := ep) lo) hh F N hat (kdl_size (by simp)) fun D h' tk vs F' N' l1 hl hv => ?_
  match vs, hl with
  | [a], _ =>
    obtain ⟨_, _, e1, hk1⟩ := hv 0 a rfl
    cases e1
    obtain ⟨t1, rfl⟩ := Value.isInt_shape hk1
    exact h D h' tk t1 F' N' l1
end
theorem eqi_not {prog : Program} {w : World} {A : Around} {E : Value → Shared → Prop} {s : Shared} {b c : Int} {t u : Tok} {Q : Value → Shared → Prop} (e : b ≠ c) (h : Q (.bool false) s) : wpAny (model prog w) A (compareOp .Eq (.int b t) (.int c u)) Q E s := by
  refine eq_int ?_
  rw [show (b == c) = false from by simpa using e]
  exact h
theorem gti_not {prog : Program} {w : World} {A : Around} {E : Value → Shared → Prop} {s : Shared} {b c : Int} {t u : Tok} {Q : Value → Shared → Prop} (e : ¬ b > c) (h : Q (.bool false) s) : wpAny (model prog w) A (compareOp .Gt (.int b t) (.int c u)) Q E s := by
  refine gt_int ?_
  have e2 : decide (b > c) = false := decide_eq_false e
  first
    | (rw [show decide (c < b) = false from e2]; exact h)
    | (rw [e2]; exact h)
end
section
theorem sub_app {a b c : List (Addr × Obj)} (h : ∀ q ∈ a, q ∈ b) : ∀ q ∈ a ++ c, q ∈ b ++ c := fun q hq => (List.mem_append.mp hq).elim (fun x => List.mem_append_left _ (h q x)) fun x => List.mem_append_right _ x
/-- a ledger without what stands at some places -/
inductive Split (adr : List Addr) : List (Addr × Obj) → List (Addr × Obj) → Prop where
  | nil : Split adr [] []
  | skip {d : Addr} {o : Obj} {r rest : List (Addr × Obj)} : d ∈ adr → Split adr r rest → Split adr ((d, o) :: r) rest
  | keep {q : Addr × Obj} {r rest : List (Addr × Obj)} : (∀ b ∈ adr, @Ne Nat q.1 b) → Split adr r rest → Split adr (q :: r) (q :: rest)
theorem Split.out {adr : List Addr} {news rest : List (Addr × Obj)} (h : Split adr news rest) : ∀ q ∈ rest, q ∈ news ∧ q.1 ∉ adr := by
  induction h with
  | nil => intro q hq; exact absurd hq List.not_mem_nil
  | skip _ _ ih => intro q hq; exact ⟨List.mem_cons_of_mem _ (ih q hq).1, (ih q hq).2⟩
  | keep hn _ ih =>
    intro q hq
    rcases List.mem_cons.mp hq with rfl | hq
    · exact ⟨List.mem_cons_self .., fun hm => hn _ hm rfl⟩
    · exact ⟨List.mem_cons_of_mem _ (ih q hq).1, (ih q hq).2⟩
section
variable {w : World} {n : Nat} {f : Addr} {vs : List Value} {pre news rest : List (Addr × Obj)} {R : Value → List (Addr × Obj) → Prop}
  {p : Program} {loose : List Str} {mean : ExcName → Option Value} {mg mb : Str → Option Value} {dp un : Nat} {gd : Option (List Code)} {cn : Str} {cs : Scope} {a : Addr} {ccd : Value} {cl : List (Str × Addr)} {outer : List Env} {A₀ : Around} {base h₀ : Heap} {L : Addr} {m : Str → Option Value} {s : Shared} {Q E : Value → Shared → Prop}
theorem Does.split (D : Does w n f vs pre R) (B : Below A₀ base outer h₀) (F : Fr h₀ L s.heap m) (X : (Mine.hd.heap_39 w.params).In h₀) (N : News h₀ L s.heap news) (T : Top p loose mean mg mb h₀) (hk : cs.kind = .function) (hdp : dp + n < recursionLimit) (hun : un + 10 * n < cLine)
    (hsub : ∀ q ∈ pre, q ∈ news) (hs : Split (pre.map (·.1)) news rest)
    (hret : ∀ r post h' tk', R r post → Fr h₀ L h' m → News h₀ L h' (post ++ rest) → Q r { s with heap := h', toks := tk' }) :
    wpAny (model PySem.Challenge.rw_tk0093_01.prog w) (ktrTop dp un gd cn cs L a ccd cl outer) (call (.ref f) vs) Q E s :=
  D.use B F X N T hk hdp hun hsub rest hs.out hret
end
/-- a call that makes objects of its own alone -/
def DoesF (w : World) (n : Nat) (f : Addr) (vs : List Value) (R : Value → List (Addr × Obj) → Prop) : Prop :=
  ∀ (p : Program) (loose : List Str) (mean : ExcName → Option Value) (mg mb : Str → Option Value) (dp un : Nat) (gd : Option (List Code)) (cn : Str) (cs : Scope) (a : Addr) (ccd : Value) (cl : List (Str × Addr)) (outer : List Env) (A₀ : Around) (base h₀ : Heap) (L : Addr) (m : Str → Option Value) (s : Shared) (Q E : Value → Shared → Prop),
    Below A₀ base outer h₀ → Fr h₀ L s.heap m → (Mine.hd.heap_39 w.params).In h₀ → News h₀ L s.heap [] → Top p loose mean mg mb h₀ → cs.kind = .function → dp + n < recursionLimit → un + 10 * n < cLine →
    (∀ r post h' tk', R r post → (∀ q ∈ post, s.heap.get? q.1 = none) → Kept s.heap [] h' → Fr h₀ L h' m → News h₀ L h' post → Q r { s with heap := h', toks := tk' }) →
    wpAny (model PySem.Challenge.rw_tk0093_01.prog w) (ktrTop dp un gd cn cs L a ccd cl outer) (call (.ref f) vs) Q E s
section
variable {w : World} {n : Nat} {f : Addr} {vs : List Value} {pre news rest : List (Addr × Obj)} {R : Value → List (Addr × Obj) → Prop}
  {p : Program} {loose : List Str} {mean : ExcName → Option Value} {mg mb : Str → Option Value} {dp un : Nat} {gd : Option (List Code)} {cn : Str} {cs : Scope} {a : Addr} {ccd : Value} {cl : List (Str × Addr)} {outer : List Env} {A₀ : Around} {base h₀ : Heap} {L : Addr} {m : Str → Option Value} {s : Shared} {Q E : Value → Shared → Prop}
theorem fresh_of {h g k : Heap} {L : Addr} {post : List (Addr × Obj)} (hK : Kept h [] g) (N : News g L k post) : ∀ q ∈ post, h.get? q.1 = none := fun q hq => by
  cases e : h.get? q.1 with
  | none => rfl
  | some o =>
    have h1 := hK _ _ e List.not_mem_nil
    rw [(N q hq).2.2] at h1
    cases h1
theorem DoesF.use (D : DoesF w n f vs R) (B : Below A₀ base outer h₀) (F : Fr h₀ L s.heap m) (X : (Mine.hd.heap_39 w.params).In h₀) (N : News h₀ L s.heap news) (T : Top p loose mean mg mb h₀) (hk : cs.kind = .function) (hdp : dp + n < recursionLimit) (hun : un + 10 * n < cLine)
    (hret : ∀ r post h' tk', R r post → OwnOff post (news.map (·.1)) → Fr h₀ L h' m → News h₀ L h' (news ++ post) → Q r { s with heap := h', toks := tk' }) :
    wpAny (model PySem.Challenge.rw_tk0093_01.prog w) (ktrTop dp un gd cn cs L a ccd cl outer) (call (.ref f) vs) Q E s := by
  refine D p loose mean mg mb dp un gd cn cs a ccd cl outer A₀ base h₀ L m s Q E B F X News.nil T hk hdp hun fun r post h' tk' hR hf hK F' N' => hret r post h' tk' hR (fun q hq b hb e => ?_) F' fun q hq => ?_
  · obtain ⟨z, hz, rfl⟩ := List.mem_map.mp hb
    have h1 := (N z hz).1
    rw [← e, hf q hq] at h1
    cases h1
  · rcases List.mem_append.mp hq with hq | hq
    · exact ⟨hK _ _ (N q hq).1 List.not_mem_nil, (N q hq).2⟩
    · exact N' q hq
end
/-- a call that makes objects of its own alone, whatever stands in the ledger -/
def DoesN (w : World) (n : Nat) (f : Addr) (vs : List Value) (R : Value → List (Addr × Obj) → Prop) : Prop :=
  ∀ (p : Program) (loose : List Str) (mean : ExcName → Option Value) (mg mb : Str → Option Value) (dp un : Nat) (gd : Option (List Code)) (cn : Str) (cs : Scope) (a : Addr) (ccd : Value) (cl : List (Str × Addr)) (outer : List Env) (A₀ : Around) (base h₀ : Heap) (L : Addr) (m : Str → Option Value) (news : List (Addr × Obj)) (s : Shared) (Q E : Value → Shared → Prop),
    Below A₀ base outer h₀ → Fr h₀ L s.heap m → (Mine.hd.heap_39 w.params).In h₀ → News h₀ L s.heap news → Top p loose mean mg mb h₀ → cs.kind = .function → dp + n < recursionLimit → un + 10 * n < cLine →
    (∀ r post h' tk', R r post → OwnOff post (news.map (·.1)) → Fr h₀ L h' m → News h₀ L h' (post ++ news) → Q r { s with heap := h', toks := tk' }) →
    wpAny (model PySem.Challenge.rw_tk0093_01.prog w) (ktrTop dp un gd cn cs L a ccd cl outer) (call (.ref f) vs) Q E s
/-- what was made in a frame whose ground keeps the rest -/
theorem made_of {h₀ h g k : Heap} {L L' : Addr} {adr : List Addr} {news post : List (Addr × Obj)} (N : News h₀ L h news) (hadr : ∀ q ∈ news, q.1 ∉ adr) (hK : Kept h adr g) (hg : ∀ b o, g.get? b = some o → k.get? b = some o) (Ng : News g L' k post) (Np : News h₀ L k post) :
    OwnOff post (news.map (·.1)) ∧ News h₀ L k (post ++ news) := by
  refine ⟨fun q hq b hb e => ?_, fun q hq => ?_⟩
  · obtain ⟨z, hz, rfl⟩ := List.mem_map.mp hb
    have h1 := hK _ _ (N z hz).1 (hadr z hz)
    rw [← e, (Ng q hq).2.2] at h1
    cases h1
  · rcases List.mem_append.mp hq with hq | hq
    · exact Np q hq
    · exact ⟨hg _ _ (hK _ _ (N q hq).1 (hadr q hq)), (N q hq).2⟩
section
variable {w : World} {n : Nat} {f : Addr} {vs : List Value} {pre news rest : List (Addr × Obj)} {R : Value → List (Addr × Obj) → Prop}
  {p : Program} {loose : List Str} {mean : ExcName → Option Value} {mg mb : Str → Option Value} {dp un : Nat} {gd : Option (List Code)} {cn : Str} {cs : Scope} {a : Addr} {ccd : Value} {cl : List (Str × Addr)} {outer : List Env} {A₀ : Around} {base h₀ : Heap} {L : Addr} {m : Str → Option Value} {s : Shared} {Q E : Value → Shared → Prop}
theorem DoesN.use (D : DoesN w n f vs R) (B : Below A₀ base outer h₀) (F : Fr h₀ L s.heap m) (X : (Mine.hd.heap_39 w.params).In h₀) (N : News h₀ L s.heap news) (T : Top p loose mean mg mb h₀) (hk : cs.kind = .function) (hdp : dp + n < recursionLimit) (hun : un + 10 * n < cLine)
    (hret : ∀ r post h' tk', R r post → OwnOff post (news.map (·.1)) → Fr h₀ L h' m → News h₀ L h' (post ++ news) → Q r { s with heap := h', toks := tk' }) :
    wpAny (model PySem.Challenge.rw_tk0093_01.prog w) (ktrTop dp un gd cn cs L a ccd cl outer) (call (.ref f) vs) Q E s :=
  D p loose mean mg mb dp un gd cn cs a ccd cl outer A₀ base h₀ L m news s Q E B F X N T hk hdp hun hret
end
/-- a call that makes objects of its own alone, all above what stands in the ledger -/
def DoesO (w : World) (n : Nat) (f : Addr) (vs : List Value) (R : Value → List (Addr × Obj) → Prop) : Prop :=
  ∀ (p : Program) (loose : List Str) (mean : ExcName → Option Value) (mg mb : Str → Option Value) (dp un : Nat) (gd : Option (List Code)) (cn : Str) (cs : Scope) (a : Addr) (ccd : Value) (cl : List (Str × Addr)) (outer : List Env) (A₀ : Around) (base h₀ : Heap) (L : Addr) (m : Str → Option Value) (news : List (Addr × Obj)) (s : Shared) (Q E : Value → Shared → Prop),
    Below A₀ base outer h₀ → Fr h₀ L s.heap m → (Mine.hd.heap_39 w.params).In h₀ → News h₀ L s.heap news → Top p loose mean mg mb h₀ → cs.kind = .function → dp + n < recursionLimit → un + 10 * n < cLine →
    (∀ r post h' tk', R r post → (∀ z ∈ news, ∀ q ∈ post, @LT.lt Nat _ z.1 q.1) → Fr h₀ L h' m → News h₀ L h' (post ++ news) → Q r { s with heap := h', toks := tk' }) →
    wpAny (model PySem.Challenge.rw_tk0093_01.prog w) (ktrTop dp un gd cn cs L a ccd cl outer) (call (.ref f) vs) Q E s
section
variable {w : World} {n : Nat} {f : Addr} {vs : List Value} {pre news rest : List (Addr × Obj)} {R : Value → List (Addr × Obj) → Prop}
  {p : Program} {loose : List Str} {mean : ExcName → Option Value} {mg mb : Str → Option Value} {dp un : Nat} {gd : Option (List Code)} {cn : Str} {cs : Scope} {a : Addr} {ccd : Value} {cl : List (Str × Addr)} {outer : List Env} {A₀ : Around} {base h₀ : Heap} {L : Addr} {m : Str → Option Value} {s : Shared} {Q E : Value → Shared → Prop}
theorem DoesO.use (D : DoesO w n f vs R) (B : Below A₀ base outer h₀) (F : Fr h₀ L s.heap m) (X : (Mine.hd.heap_39 w.params).In h₀) (N : News h₀ L s.heap news) (T : Top p loose mean mg mb h₀) (hk : cs.kind = .function) (hdp : dp + n < recursionLimit) (hun : un + 10 * n < cLine)
    (hret : ∀ r post h' tk', R r post → (∀ z ∈ news, ∀ q ∈ post, @LT.lt Nat _ z.1 q.1) → Fr h₀ L h' m → News h₀ L h' (post ++ news) → Q r { s with heap := h', toks := tk' }) :
    wpAny (model PySem.Challenge.rw_tk0093_01.prog w) (ktrTop dp un gd cn cs L a ccd cl outer) (call (.ref f) vs) Q E s :=
  D p loose mean mg mb dp un gd cn cs a ccd cl outer A₀ base h₀ L m news s Q E B F X N T hk hdp hun hret
end
end
section
section
variable {prog : Program} {w : World} {A : Around} {E : Value → Shared → Prop} {s : Shared} {env : Env} {h₀ : Heap} {x : Str} {body : List Stmt} {Q : Flow → Shared → Prop}
/-- a turn's end: the iterator stands, the ledger may be another one -/
def TurnEnd (h₀ : Heap) (L I : Addr) (oI : Obj) (J : (Str → Option Value) → List (Addr × Obj) → Prop) (s₁ s₂ : Shared) : Prop :=
  ∃ h' tk m' news', s₂ = { s₁ with heap := h', toks := tk } ∧ Fr h₀ L h' m' ∧ News h₀ L h' ((I, oI) :: news') ∧ (∀ q ∈ news', @Ne Nat q.1 I) ∧ J m' news'
def TurnPost (h₀ : Heap) (L I : Addr) (oI : Obj) (J : (Str → Option Value) → List (Addr × Obj) → Prop) (s₁ : Shared) (Q : Flow → Shared → Prop) (f : Flow) (s₂ : Shared) : Prop :=
  match f with
  | .ret v => Q (.ret v) s₂
  | .brk => Q .next s₂
  | _ => TurnEnd h₀ L I oI J s₁ s₂
theorem range_inv {r : Addr} {b₀ : Int} {t₀ u₀ v₀ : Tok} {n : Nat} {m₀ : Str → Option Value} {news : List (Addr × Obj)} (J : Nat → (Str → Option Value) → List (Addr × Obj) → Prop)
    (hh : A.handled = none) (hr : IsRange s.heap r 0 b₀ 1 t₀ u₀ v₀) (hsmall : Builtin.Range.small 0 b₀ 1 = true) (hn : Builtin.Range.rangeSize 0 b₀ 1 = (n : Int)) (F : Fr h₀ env.locals s.heap m₀) (N : News h₀ env.locals s.heap news) (hj : J 0 m₀ news)
    (turn : ∀ (i : Nat) t m₁ news₁ h tk I oI, i < n → J i m₁ news₁ → (∀ q ∈ news₁, @Ne Nat q.1 I) → Fr h₀ env.locals h (fun y => if y = x then some (.int (i : Int) t) else m₁ y) → News h₀ env.locals h ((I, oI) :: news₁) →
      wpAny (model prog w) A (execs body env) (TurnPost h₀ env.locals I oI (J (i + 1)) { s with heap := h, toks := tk } Q) E { s with heap := h, toks := tk })
    (done : ∀ m₁ news₁ h tk, J n m₁ news₁ → Fr h₀ env.locals h m₁ → News h₀ env.locals h news₁ → Q .next { s with heap := h, toks := tk }) :
    wpAny (model prog w) A (pyIter (.ref r)) (fun it s₂ => LoopAtV prog w A h₀ env x body Q E it s₂) E s := by
  refine wpAny_pyIter_range hr hsmall ?_
  have W : Walks prog w A s.heap.objs.size [s.heap.objs.size] [s.heap.objs.size] n (fun i v => i < n ∧ ∃ t, v = .int (0 + i * 1) t)
      (fun i h => IsRangeIter h s.heap.objs.size (0 + (i : Nat) * 1) ((n : Int) - (i : Nat)) 1) := (Walks.range hh _ 0 1 n).bound
  have hI₀ : h₀.get? s.heap.objs.size = none := next_is_new F
  refine ⟨s.heap.objs.size, _, _, n, _, _, m₀, news, J, rfl, W, ?_, ?_, ?_, (by show IsRangeIter _ _ _ _ _; rw [hn]; simpa using Heap.get?_push_size _ rfl), F.push _, (fun p hp => ⟨Heap.get?_push_of_some _ (N p hp).1, (N p hp).2⟩), hj, ?_, ?_⟩
  · intro hm
    exact absurd F.ns.lt ((List.mem_singleton.mp hm) ▸ Nat.lt_irrefl _)
  · intro b hb
    rw [List.mem_singleton.mp hb]
    exact hI₀
  · intro p hp hm
    exact absurd (Heap.lt_size (N p hp).1) ((List.mem_singleton.mp hm) ▸ Nat.lt_irrefl _)
  · rintro i v m₁ news₁ s₁ own ⟨hh', tk', rfl⟩ hin ⟨_, t, rfl⟩ hJ hoff hown hget hall hst F₁ N₁
    have e1 : (0 : Int) + (i : Int) * 1 = (i : Int) := by omega
    rw [e1] at F₁
    have hst' : ∃ oI, hh'.get? s.heap.objs.size = some oI := ⟨_, hst⟩
    obtain ⟨oI, hoI⟩ := hst'
    have hmem : (s.heap.objs.size, oI) ∈ own := hall _ (List.mem_singleton.mpr rfl) hI₀ oI hoI
    have N₂ : News h₀ env.locals hh' ((s.heap.objs.size, oI) :: news₁) := fun q hq => by
      rcases List.mem_cons.mp hq with rfl | hq
      · exact N₁ _ (List.mem_append_left _ hmem)
      · exact N₁ _ (List.mem_append_right _ hq)
    refine wpAny_mono (turn i t m₁ news₁ hh' tk' s.heap.objs.size oI hin hJ (fun q hq e => hoff q hq (List.mem_singleton.mpr e)) F₁ N₂) (fun f s₂ p => ?_) fun _ _ e => e
    have fin : TurnEnd h₀ env.locals s.heap.objs.size oI (J (i + 1)) { s with heap := hh', toks := tk' } s₂ → LoopStepU h₀ env.locals [s.heap.objs.size] own (J (i + 1)) { s with heap := hh', toks := tk' } .next s₂ := by
      rintro ⟨h', tk, m', news', e, F', N', ho, hJ'⟩
      refine ⟨rfl, h', tk, m', news', e, F', fun q hq => ?_, fun q hq hm => ho q hq (List.mem_singleton.mp hm), hJ'⟩
      rcases List.mem_append.mp hq with hq | hq
      · have h1 : q.1 = s.heap.objs.size := List.mem_singleton.mp (hown q hq)
        have h2 := hget q hq
        rw [h1] at h2
        have h3 : oI = q.2 := Option.some.inj (hoI.symm.trans h2)
        have h4 : q = (s.heap.objs.size, oI) := by rw [h3, ← h1]
        rw [h4]
        exact N' _ List.mem_cons_self
      · exact N' _ (List.mem_cons_of_mem _ hq)
    cases f with
    | ret v => exact .ret p
    | brk => exact .brk p
    | next => exact .next (fin p)
    | cont => exact .cont (fin p)
  · rintro h' tk m' news' F' N' _ hJ
    exact done m' news' h' tk hJ F' N'
end
end
section
section
variable {prog : Program} {w : World} {A : Around} {E : Value → Shared → Prop} {s : Shared}
theorem int_no_bytes : typeLookup (.type "int") "__bytes__" = pure none := by rw [typeLookup_type, builtinLookup_eq_fast]; kernel_rfl
theorem int_index_slot : typeLookup (.type "int") "__index__" = pure (some (.builtin "int.__index__")) := by rw [typeLookup_type, builtinLookup_eq_fast]; kernel_rfl
theorem int_no_buffer : typeLookup (.type "int") "__buffer__" = pure none := by rw [typeLookup_type, builtinLookup_eq_fast]; kernel_rfl
theorem bytesN_new {n : Int} {tn : Tok} {Q : Value → Shared → Prop} (h0 : 0 ≤ n) (hn : n ≤ 100)
    (hQ : ∀ t k, Q (.bytes (Array.replicate n.toNat 0) t) { s with toks := k }) :
    codeAny (model prog w) A (.call (.builtin "bytes.__new__") ⟨[.type "bytes", .int n tn], []⟩) (wants Q E) s := by
  refine codeAny_of_tree ?_
  show wpAny _ A.in1 (do checkBuiltinCall "bytes.__new__" ⟨[.type "bytes", .int n tn], []⟩; again (.builtin "bytes.__new__" ⟨[.type "bytes", .int n tn], []⟩)) _ _ s
  refine wpAny_bind (wpAny_of_eq (F.bm_newCall _) (wpAny_pure ⟨plainId_quiet F.bm_plain _, codeAny_builtin F.bm_entry ?_⟩))
  rw [Around.under_plainId F.bm_plain _]
  have hT : s.TypeIs (.int n tn) "int" := rfl
  unfold Builtin.«bytes.__new__»
  refine wpAny_bind (wpAny_of_eq (a := true) rfl ?_)
  refine bm_if_false rfl ?_
  refine wpAny_bind (wpAny_of_eq F.bm_sub ?_)
  refine bm_if_false rfl ?_
  refine wpAny_bind (wpAny_of_eq (F.bm_bind _) ?_)
  refine wpAny_bind (wpAny_of_eq (a := ()) rfl ?_)
  refine wpAny_bind (wpAny_of_eq (a := ()) rfl ?_)
  refine bm_if_false rfl ?_
  refine wpAny_bind (wpAny_specialOf hT int_no_bytes ?_)
  refine wpAny_bind (wpAny_of_eq (a := false) rfl ?_)
  refine bm_if_false rfl ?_
  refine wpAny_bind (wpAny_specialOf hT int_index_slot ?_)
  refine bm_if_false rfl ?_
  refine wpAny_bind (wpAny_of_eq (a := .ok n) rfl ?_)
  dsimp only
  have hsz : (100 : Nat) ≤ sizeLine := by decide
  have e1 : (!Builtin.Bytes.fitsIndex n) = false := by
    unfold Builtin.Bytes.fitsIndex
    simp only [Bool.not_eq_false', Bool.and_eq_true, decide_eq_true_eq]
    omega
  have e2 : decide (n < 0) = false := by
    simp only [decide_eq_false_iff_not]
    omega
  have e3 : decide (n > 2 ^ 63 - 34) = false := by
    simp only [decide_eq_false_iff_not]
    omega
  have e4 : Builtin.Bytes.tooLong n.toNat = false := by
    unfold Builtin.Bytes.tooLong
    simp only [decide_eq_false_iff_not]
    omega
  rw [if_neg (by rw [e1]; decide)]
  first | rw [if_neg (by omega)] | refine bm_if_false e2 ?_
  first | rw [if_neg (by omega)] | refine bm_if_false e3 ?_
  first | rw [if_neg (by rw [e4]; decide)] | refine bm_if_false e4 ?_
  refine wpAny_bind (wpAny_rule ?_)
  refine wpAny_bind (wpAny_mkBytes ?_ (by rw [Array.size_replicate]; omega))
  show wpAny _ _ (if (Value.type "bytes" == Value.type "bytes") = true then _ else _) _ _ _
  refine bm_if_true (by decide) ?_
  first
    | exact wpAny_pure ⟨_, rfl, hQ _ _⟩
    | exact wpAny_pure (hQ _ _)
    | exact wpAny_bind (wpAny_pure (wpAny_pure (hQ _ _)))
theorem call_bytesN {n : Int} {tn : Tok} {Q : Value → Shared → Prop} (h0 : 0 ≤ n) (hn : n ≤ 100)
    (hQ : ∀ t k, Q (.bytes (Array.replicate n.toNat 0) t) { s with toks := k }) : wpAny (model prog w) A (call (.type "bytes") [.int n tn]) Q E s := by
  refine callType_codes (Q₁ := fun obj s₁ => s₁.TypeIs obj "bytes" ∧ Q obj s₁) F.bm_called (F.bm_typeCall _) F.entry_object_init
    (bytesN_new h0 hn fun t k => ⟨PySem.W.typeIs_bytes _ _ _, hQ t k⟩) fun obj s₁ h₁ => ?_
  exact ⟨h₁.1, F.args_object_init_2 obj _, object_init_meets F.bm_called.init.lookup F.bm_called.made (by decide) prog w A.in1 _ s₁ ⟨h₁.1, rfl, h₁.2⟩⟩
end
end
section
theorem Kept.weaken {h g : Heap} {a b : List Addr} (k : Kept h a g) (s : ∀ x ∈ a, x ∈ b) : Kept h b g := fun x o e n => k x o e fun m => n (s x m)
/-- what a call's ledger holds at its end is old or fresh -/
theorem fresh_or {h g k : Heap} {L : Addr} {adr : List Addr} {post : List (Addr × Obj)} (hK : Kept h adr g) (N : News g L k post) : ∀ q ∈ post, q.1 ∈ adr ∨ h.get? q.1 = none := fun q hq => by
  cases e : h.get? q.1 with
  | none => exact .inr rfl
  | some o =>
    by_cases hm : q.1 ∈ adr
    · exact .inl hm
    · have h1 := hK _ _ e hm
      rw [(N q hq).2.2] at h1
      cases h1
/-- as Does; what the ledger holds at the end is old or fresh -/
def DoesG (w : World) (n : Nat) (f : Addr) (vs : List Value) (pre : List (Addr × Obj)) (R : Value → List (Addr × Obj) → Prop) : Prop :=
  ∀ (p : Program) (loose : List Str) (mean : ExcName → Option Value) (mg mb : Str → Option Value) (dp un : Nat) (gd : Option (List Code)) (cn : Str) (cs : Scope) (a : Addr) (ccd : Value) (cl : List (Str × Addr)) (outer : List Env) (A₀ : Around) (base h₀ : Heap) (L : Addr) (m : Str → Option Value) (s : Shared) (Q E : Value → Shared → Prop),
    Below A₀ base outer h₀ → Fr h₀ L s.heap m → (Mine.hd.heap_39 w.params).In h₀ → News h₀ L s.heap pre → Top p loose mean mg mb h₀ → cs.kind = .function → dp + n < recursionLimit → un + 10 * n < cLine →
    (∀ r post h' tk', R r post → (∀ q ∈ post, q.1 ∈ pre.map (·.1) ∨ s.heap.get? q.1 = none) → Kept s.heap (pre.map (·.1)) h' → Fr h₀ L h' m → News h₀ L h' post → Q r { s with heap := h', toks := tk' }) →
    wpAny (model PySem.Challenge.rw_tk0093_01.prog w) (ktrTop dp un gd cn cs L a ccd cl outer) (call (.ref f) vs) Q E s
section
variable {w : World} {n : Nat} {f : Addr} {vs : List Value} {pre news lits P S : List (Addr × Obj)} {R : Value → List (Addr × Obj) → Prop}
  {p : Program} {loose : List Str} {mean : ExcName → Option Value} {mg mb : Str → Option Value} {dp un : Nat} {gd : Option (List Code)} {cn : Str} {cs : Scope} {a : Addr} {ccd : Value} {cl : List (Str × Addr)} {outer : List Env} {A₀ : Around} {base h₀ : Heap} {L : Addr} {m : Str → Option Value} {s : Shared} {Q E : Value → Shared → Prop}
theorem DoesG.does (D : DoesG w n f vs pre R) : Does w n f vs pre R := by
  intro p loose mean mg mb dp un gd cn cs a ccd cl outer A₀ base h₀ L m s Q E B F X N T hk hdp hun hret
  exact D p loose mean mg mb dp un gd cn cs a ccd cl outer A₀ base h₀ L m s Q E B F X N T hk hdp hun fun r post h' tk' hR _ hK F' N' => hret r post h' tk' hR hK F' N'
/-- a call that reads a part of a ledger reads the ledger -/
theorem Does.widen {E' : List (Addr × Obj)} (D : Does w n f vs pre R) (hR : ∀ r post, R r post → ∀ q ∈ pre, q ∈ post) (hsub : ∀ q ∈ pre, q ∈ E') : Does w n f vs E' (fun r post => (∃ post', R r post') ∧ post = E') := by
  intro p loose mean mg mb dp un gd cn cs a ccd cl outer A₀ base h₀ L m s Q E B F X N T hk hdp hun hret
  refine D p loose mean mg mb dp un gd cn cs a ccd cl outer A₀ base h₀ L m s Q E B F X (fun q hq => N q (hsub q hq)) T hk hdp hun fun r post h' tk' hr hK F' N' => ?_
  refine hret r E' h' tk' ⟨⟨_, hr⟩, rfl⟩ (hK.weaken fun x hx => ?_) F' (news_back N hsub hK fun q hq => N' q (hR r post hr q hq))
  obtain ⟨z, hz, rfl⟩ := List.mem_map.mp hx
  exact List.mem_map_of_mem (hsub z hz)
/-- a block of the ledger is turned, the rest stands -/
theorem DoesG.block (D : DoesG w n f vs pre R) (B : Below A₀ base outer h₀) (F : Fr h₀ L s.heap m) (X : (Mine.hd.heap_39 w.params).In h₀) (N : News h₀ L s.heap (lits ++ (P ++ (pre ++ S)))) (T : Top p loose mean mg mb h₀) (hk : cs.kind = .function) (hdp : dp + n < recursionLimit) (hun : un + 10 * n < cLine)
    (hoff : ∀ q ∈ lits ++ (P ++ S), ∀ z ∈ pre, @Ne Nat q.1 z.1)
    (hret : ∀ r post h' tk', R r post → (∀ q ∈ lits ++ (P ++ S), ∀ z ∈ post, @Ne Nat q.1 z.1) → Fr h₀ L h' m → News h₀ L h' (lits ++ (P ++ (post ++ S))) → Q r { s with heap := h', toks := tk' }) :
    wpAny (model PySem.Challenge.rw_tk0093_01.prog w) (ktrTop dp un gd cn cs L a ccd cl outer) (call (.ref f) vs) Q E s := by
  have hin : ∀ q, q ∈ lits ++ (P ++ S) → q ∈ lits ++ (P ++ (pre ++ S)) := by
    intro q hq
    rcases List.mem_append.mp hq with h | h
    · exact List.mem_append_left _ h
    · rcases List.mem_append.mp h with h | h
      · exact List.mem_append_right _ (List.mem_append_left _ h)
      · exact List.mem_append_right _ (List.mem_append_right _ (List.mem_append_right _ h))
  refine D p loose mean mg mb dp un gd cn cs a ccd cl outer A₀ base h₀ L m s Q E B F X (fun q hq => N q (List.mem_append_right _ (List.mem_append_right _ (List.mem_append_left _ hq)))) T hk hdp hun fun r post h' tk' hR hf hK F' N' => hret r post h' tk' hR (fun q hq z hz e => ?_) F' fun q hq => ?_
  · rcases hf z hz with h | h
    · obtain ⟨y, hy, e2⟩ := List.mem_map.mp h
      exact hoff q hq y hy (e.trans e2.symm)
    · have h1 := (N q (hin q hq)).1
      rw [e, h] at h1
      cases h1
  · have hq2 : q ∈ post ∨ q ∈ lits ++ (P ++ S) := by
      rcases List.mem_append.mp hq with h | h
      · exact .inr (List.mem_append_left _ h)
      · rcases List.mem_append.mp h with h | h
        · exact .inr (List.mem_append_right _ (List.mem_append_left _ h))
        · rcases List.mem_append.mp h with h | h
          · exact .inl h
          · exact .inr (List.mem_append_right _ (List.mem_append_right _ h))
    rcases hq2 with hq2 | hq2
    · exact N' q hq2
    · have h2 := N q (hin q hq2)
      refine ⟨hK _ _ h2.1 fun hm => ?_, h2.2⟩
      obtain ⟨y, hy, e2⟩ := List.mem_map.mp hm
      exact hoff q hq2 y hy e2.symm
/-- two entries that hold unlike things stand apart -/
theorem news_ne {h : Heap} {x y : Addr} {o o' : Obj} (N : News h₀ L h news) (hx : (x, o) ∈ news) (hy : (y, o') ∈ news) (hne : o ≠ o') : @Ne Nat x y := fun e => by
  have h1 := (N _ hx).1
  have h2 := (N _ hy).1
  dsimp only at h1 h2
  rw [e, h2] at h1
  exact hne (Option.some.inj h1).symm
end
end
local macro_rules | `(tactic| k_ne) => `(tactic| ((try dsimp only); first | (with_reducible assumption) | (exact Ne.symm (by with_reducible assumption)) | ((repeat (with_reducible rename (((@Ne Nat _ _) ∧ _) ∧ _) => hz9; clear hz9)); first | ((repeat (with_reducible rename ((@Ne Nat _ _) ∧ _) => hz9; clear hz9)); (repeat (with_reducible rename (@Ne Nat _ _) => hz9; clear hz9)); (refine neN ?_; omega)) | ((repeat (with_reducible rename (@Ne Nat _ _) => hz9; clear hz9)); (refine neN ?_; omega)))))
local macro_rules | `(tactic| k_all) => `(tactic| first | exact List.forall_mem_nil _ | (refine' List.forall_mem_cons.mpr ⟨?a, ?b⟩; (case a => k_ne); (case b => k_all)))
local macro_rules | `(tactic| k_upd) => `(tactic| first | (refine' Upd.head ?a; (case a => k_all)) | (refine' Upd.tail ?a ?b; (case a => k_ne); (case b => k_upd)))
local macro_rules | `(tactic| k_updF) => `(tactic| first | (refine' UpdF.head ?a; (case a => k_all)) | (refine' UpdF.tail ?a ?b; (case a => k_ne); (case b => k_updF)))
local macro_rules | `(tactic| tb_start) => `(tactic| first | exact Split.nil | (refine' Split.skip ?a ?b; (case a => k_mem); (case b => tb_start)) | (refine' Split.keep ?a ?b; (case a => tb_rel); (case b => tb_start)))
local macro_rules | `(tactic| tb_rel) => `(tactic| first | exact List.forall_mem_nil _ | (refine' List.forall_mem_cons.mpr ⟨?a, ?b⟩; (case a => k_ne); (case b => tb_rel)))
section
set_option maxHeartbeats 8000000 in
theorem tokIn_does {w : World} {b : Array UInt8} {t : Tok} (hb : 21 ≤ b.size) (hb2 : b.size ≤ 1000) :
    Does w 10 35 [.bytes b t] [] (fun r _ => ∃ t', r = .bytes (KBy.picked b (some ((b.size : Int) - 16)) none) t') := by
  intro p loose mean mg mb dp un gd cn cs a ccd cl outer A₀ base h₀ L m s Q E B F X N T hk hdp hun hret
  have kM := kstMark
  refine wpAny_call ?_
  (first
  | (k_dflt (refine' code_keep ?k1 ?k2 ?k3 ?k4 ?k5 ?kA ?kF ?kK ?k6 ?k7 ?k8 ?k9 ?kB ?_ ?c2 ?c3 ?c4 ?c5; (case kA => exact rfl); (case kF => exact rfl); (case kK => first | exact rfl | assumption); (case k1 => k_asm); (case k2 => k_asm); (case k3 => k_asm); (case k4 => k_asm); (case k5 => k_asm); (case k6 => k_is); (case k7 => k_is); (case k8 => first | k_room | ktr_room); (case k9 => first | exact BindsTo.of_eq rfl | exact binds_K (by k_in) rfl (by k_is) rfl rfl rfl | fail "k_enter: no rule for these arguments"); (case c5 => decide); (case kB => exact locs rfl); (case c2 => exact rfl); (case c3 => exact rfl); (case c4 => exact rfl); k_whole; intro g' L' h' hG' FG' F' N' B' X' T'; (try dsimp only); (try k_lift B'); (try k_fold)))
  | (k_dflt (refine' code_keepC ?k1 ?k2 ?k3 ?k4 ?k5 ?kA ?kF ?kK ?k6 ?k7 ?k8 ?k9 ?kB ?kD ?_ ?c2 ?c3 ?c4; (case kA => exact rfl); (case kF => exact rfl); (case kK => first | exact rfl | assumption); (case k1 => k_asm); (case k2 => k_asm); (case k3 => k_asm); (case k4 => k_asm); (case k5 => k_asm); (case k6 => k_is); (case k7 => k_is); (case k8 => first | k_room | ktr_room); (case k9 => first | exact BindsTo.of_eq rfl | exact binds_K (by k_in) rfl (by k_is) rfl rfl rfl | fail "k_enter: no rule for these arguments"); (case kB => exact rfl); (case kD => decide +kernel); (case c2 => exact rfl); (case c3 => exact rfl); (case c4 => exact rfl); k_whole; intro g' L' h' tk' cells' hG' FG' F' N' Y' B' X' T' l1; (try k_lt l1); k_cells Y'; (try simp only [List.cons_append, List.nil_append] at N'); (try dsimp only); (try k_lift B'); (try k_fold))))
  have hK' := kept_of hG'
  clear hG'
  repeat' (first | (k_unfold; (try dsimp only)) | (k_end; wrow_close) | (with_reducible first | ((with_reducible show wpAny _ _ (call (Value.type "bytes") [Value.ref _]) _ _ _); k_dflt (k_here; (with_reducible rename Fr _ _ _ _ => F'); (with_reducible rename News _ _ _ _ => N'); (refine make_head F' N' rfl (by k_mem) ?_); intro _ _ _ _ _)) | (k_here; (with_reducible show wpAny _ _ (binaryOp _ (Value.bytes _ _) (Value.bytes _ _)) _ _ _); (refine add_my (by first | omega | ((try simp only [byteArr_size, Array.size_append, List.length_cons, List.length_nil]); first | omega | decide | (refine Nat.le_trans (Nat.add_le_add (Nat.add_le_add (Nat.le_refl _) (picked_size_le (by assumption))) (by assumption)) (by omega)) | (refine Nat.le_trans (Nat.add_le_add (Nat.le_refl _) (picked_size_le (by assumption))) (by omega)))) ?_); intro _ _) | (k_here; (with_reducible show wpAny _ _ (subscriptTail _ _ (Value.bytes _ _) (Value.int _ _)) _ _ _); (refine item_my (by first | omega | ((try simp only [byteArr_size, Array.size_append, List.length_cons, List.length_nil]); first | omega | decide | (refine Nat.le_trans (Nat.add_le_add (Nat.add_le_add (Nat.le_refl _) (picked_size_le (by assumption))) (by assumption)) (by omega)) | (refine Nat.le_trans (Nat.add_le_add (Nat.le_refl _) (picked_size_le (by assumption))) (by omega)))) (by first | omega | ((try simp only [byteArr_size, Array.size_append, List.length_cons, List.length_nil]); first | omega | decide | (refine Nat.le_trans (Nat.add_le_add (Nat.add_le_add (Nat.le_refl _) (picked_size_le (by assumption))) (by assumption)) (by omega)) | (refine Nat.le_trans (Nat.add_le_add (Nat.le_refl _) (picked_size_le (by assumption))) (by omega)))) (by first | omega | ((try simp only [byteArr_size, Array.size_append, List.length_cons, List.length_nil]); first | omega | decide | (refine Nat.le_trans (Nat.add_le_add (Nat.add_le_add (Nat.le_refl _) (picked_size_le (by assumption))) (by assumption)) (by omega)) | (refine Nat.le_trans (Nat.add_le_add (Nat.le_refl _) (picked_size_le (by assumption))) (by omega)))) ?_); intro _ _ _ _) | (k_here; (with_reducible show wpAny _ _ (subscriptTail _ (PySem.Expr.Slice _ _ none _) (Value.bytes _ _) (Value.ref _)) _ _ _); (with_reducible rename Fr _ _ _ _ => F'); (with_reducible rename News _ _ _ _ => N'); (refine slice_my (s := ⟨_, _, _, _, _⟩) F' N' (by constructor) (by constructor) (by first | omega | ((try simp only [byteArr_size, Array.size_append, List.length_cons, List.length_nil]); first | omega | decide | (refine Nat.le_trans (Nat.add_le_add (Nat.add_le_add (Nat.le_refl _) (picked_size_le (by assumption))) (by assumption)) (by omega)) | (refine Nat.le_trans (Nat.add_le_add (Nat.le_refl _) (picked_size_le (by assumption))) (by omega)))) ?_); intro _ _ _ _ _) | ((with_reducible show wpAny _ _ (execs [] _) _ _ _); (k_here; (with_reducible refine gen_toks ?_); intro _; (with_reducible refine wpAny_execs_nil ?_))) | ((with_reducible show wpAny _ _ (execs (_ :: _) _) _ _ _); (k_here; (with_reducible refine gen_toks ?_); intro _; (with_reducible refine wpAny_execs_cons ?_); (try k_fold)))) | walk1 | (dsimp only) | (leave1; walk_say "STEP leave1"; try dsimp only) | fail "no step")
  all_goals exact hret _ [] _ _ ⟨_, rfl⟩ (by exact Kept.trans (by assumption) (Fr.keep (by assumption))) (by k_asm) News.nil
set_option maxHeartbeats 8000000 in
theorem tokNo_does {w : World} {b : Array UInt8} {t : Tok} (hb : b.size < 21) :
    Does w 10 35 [.bytes b t] [] (fun r _ => r = .none) := by
  intro p loose mean mg mb dp un gd cn cs a ccd cl outer A₀ base h₀ L m s Q E B F X N T hk hdp hun hret
  have kM := kstMark
  refine wpAny_call ?_
  (first
  | (k_dflt (refine' code_keep ?k1 ?k2 ?k3 ?k4 ?k5 ?kA ?kF ?kK ?k6 ?k7 ?k8 ?k9 ?kB ?_ ?c2 ?c3 ?c4 ?c5; (case kA => exact rfl); (case kF => exact rfl); (case kK => first | exact rfl | assumption); (case k1 => k_asm); (case k2 => k_asm); (case k3 => k_asm); (case k4 => k_asm); (case k5 => k_asm); (case k6 => k_is); (case k7 => k_is); (case k8 => first | k_room | ktr_room); (case k9 => first | exact BindsTo.of_eq rfl | exact binds_K (by k_in) rfl (by k_is) rfl rfl rfl | fail "k_enter: no rule for these arguments"); (case c5 => decide); (case kB => exact locs rfl); (case c2 => exact rfl); (case c3 => exact rfl); (case c4 => exact rfl); k_whole; intro g' L' h' hG' FG' F' N' B' X' T'; (try dsimp only); (try k_lift B'); (try k_fold)))
  | (k_dflt (refine' code_keepC ?k1 ?k2 ?k3 ?k4 ?k5 ?kA ?kF ?kK ?k6 ?k7 ?k8 ?k9 ?kB ?kD ?_ ?c2 ?c3 ?c4; (case kA => exact rfl); (case kF => exact rfl); (case kK => first | exact rfl | assumption); (case k1 => k_asm); (case k2 => k_asm); (case k3 => k_asm); (case k4 => k_asm); (case k5 => k_asm); (case k6 => k_is); (case k7 => k_is); (case k8 => first | k_room | ktr_room); (case k9 => first | exact BindsTo.of_eq rfl | exact binds_K (by k_in) rfl (by k_is) rfl rfl rfl | fail "k_enter: no rule for these arguments"); (case kB => exact rfl); (case kD => decide +kernel); (case c2 => exact rfl); (case c3 => exact rfl); (case c4 => exact rfl); k_whole; intro g' L' h' tk' cells' hG' FG' F' N' Y' B' X' T' l1; (try k_lt l1); k_cells Y'; (try simp only [List.cons_append, List.nil_append] at N'); (try dsimp only); (try k_lift B'); (try k_fold))))
  have hK' := kept_of hG'
  clear hG'
  repeat' (first | (k_unfold; (try dsimp only)) | (k_end; wrow_close) | (with_reducible first | ((with_reducible show wpAny _ _ (call (Value.type "bytes") [Value.ref _]) _ _ _); k_dflt (k_here; (with_reducible rename Fr _ _ _ _ => F'); (with_reducible rename News _ _ _ _ => N'); (refine make_head F' N' rfl (by k_mem) ?_); intro _ _ _ _ _)) | (k_here; (with_reducible show wpAny _ _ (binaryOp _ (Value.bytes _ _) (Value.bytes _ _)) _ _ _); (refine add_my (by first | omega | ((try simp only [byteArr_size, Array.size_append, List.length_cons, List.length_nil]); first | omega | decide | (refine Nat.le_trans (Nat.add_le_add (Nat.add_le_add (Nat.le_refl _) (picked_size_le (by assumption))) (by assumption)) (by omega)) | (refine Nat.le_trans (Nat.add_le_add (Nat.le_refl _) (picked_size_le (by assumption))) (by omega)))) ?_); intro _ _) | (k_here; (with_reducible show wpAny _ _ (subscriptTail _ _ (Value.bytes _ _) (Value.int _ _)) _ _ _); (refine item_my (by first | omega | ((try simp only [byteArr_size, Array.size_append, List.length_cons, List.length_nil]); first | omega | decide | (refine Nat.le_trans (Nat.add_le_add (Nat.add_le_add (Nat.le_refl _) (picked_size_le (by assumption))) (by assumption)) (by omega)) | (refine Nat.le_trans (Nat.add_le_add (Nat.le_refl _) (picked_size_le (by assumption))) (by omega)))) (by first | omega | ((try simp only [byteArr_size, Array.size_append, List.length_cons, List.length_nil]); first | omega | decide | (refine Nat.le_trans (Nat.add_le_add (Nat.add_le_add (Nat.le_refl _) (picked_size_le (by assumption))) (by assumption)) (by omega)) | (refine Nat.le_trans (Nat.add_le_add (Nat.le_refl _) (picked_size_le (by assumption))) (by omega)))) (by first | omega | ((try simp only [byteArr_size, Array.size_append, List.length_cons, List.length_nil]); first | omega | decide | (refine Nat.le_trans (Nat.add_le_add (Nat.add_le_add (Nat.le_refl _) (picked_size_le (by assumption))) (by assumption)) (by omega)) | (refine Nat.le_trans (Nat.add_le_add (Nat.le_refl _) (picked_size_le (by assumption))) (by omega)))) ?_); intro _ _ _ _) | (k_here; (with_reducible show wpAny _ _ (subscriptTail _ (PySem.Expr.Slice _ _ none _) (Value.bytes _ _) (Value.ref _)) _ _ _); (with_reducible rename Fr _ _ _ _ => F'); (with_reducible rename News _ _ _ _ => N'); (refine slice_my (s := ⟨_, _, _, _, _⟩) F' N' (by constructor) (by constructor) (by first | omega | ((try simp only [byteArr_size, Array.size_append, List.length_cons, List.length_nil]); first | omega | decide | (refine Nat.le_trans (Nat.add_le_add (Nat.add_le_add (Nat.le_refl _) (picked_size_le (by assumption))) (by assumption)) (by omega)) | (refine Nat.le_trans (Nat.add_le_add (Nat.le_refl _) (picked_size_le (by assumption))) (by omega)))) ?_); intro _ _ _ _ _) | ((with_reducible show wpAny _ _ (execs [] _) _ _ _); (k_here; (with_reducible refine gen_toks ?_); intro _; (with_reducible refine wpAny_execs_nil ?_))) | ((with_reducible show wpAny _ _ (execs (_ :: _) _) _ _ _); (k_here; (with_reducible refine gen_toks ?_); intro _; (with_reducible refine wpAny_execs_cons ?_); (try k_fold)))) | walk1 | (dsimp only) | (leave1; walk_say "STEP leave1"; try dsimp only) | fail "no step")
  all_goals exact hret _ [] _ _ rfl (by exact Kept.trans (by assumption) (Fr.keep (by assumption))) (by k_asm) News.nil
set_option maxHeartbeats 8000000 in
theorem resetFor_does {w : World} {n : Int} {b f : Array UInt8} {tn t u : Tok} (hb : b.size ≤ 100) (hf : f.size ≤ 1000) :
    Does w 10 28 [.int n tn, .bytes b t, .bytes f u] [] (fun r _ =>
      (((if 42 < n - 1 then 42 else n - 1) < 21 ∨ (f.size : Int) < (if 42 < n - 1 then 42 else n - 1) - 16 ∨ (b.size : Int) ≠ 16) ∧ r = .none) ∨
      ((¬ (if 42 < n - 1 then 42 else n - 1) < 21 ∧ ¬ (f.size : Int) < (if 42 < n - 1 then 42 else n - 1) - 16 ∧ (b.size : Int) = 16) ∧ ∃ t', r = .bytes (resArr (if 42 < n - 1 then 42 else n - 1) b f) t')) := by
  intro p loose mean mg mb dp un gd cn cs a ccd cl outer A₀ base h₀ L m s Q E B F X N T hk hdp hun hret
  have kM := kstMark
  refine wpAny_call ?_
  (first
  | (k_dflt (refine' code_keep ?k1 ?k2 ?k3 ?k4 ?k5 ?kA ?kF ?kK ?k6 ?k7 ?k8 ?k9 ?kB ?_ ?c2 ?c3 ?c4 ?c5; (case kA => exact rfl); (case kF => exact rfl); (case kK => first | exact rfl | assumption); (case k1 => k_asm); (case k2 => k_asm); (case k3 => k_asm); (case k4 => k_asm); (case k5 => k_asm); (case k6 => k_is); (case k7 => k_is); (case k8 => first | k_room | ktr_room); (case k9 => first | exact BindsTo.of_eq rfl | exact binds_K (by k_in) rfl (by k_is) rfl rfl rfl | fail "k_enter: no rule for these arguments"); (case c5 => decide); (case kB => exact locs rfl); (case c2 => exact rfl); (case c3 => exact rfl); (case c4 => exact rfl); k_whole; intro g' L' h' hG' FG' F' N' B' X' T'; (try dsimp only); (try k_lift B'); (try k_fold)))
  | (k_dflt (refine' code_keepC ?k1 ?k2 ?k3 ?k4 ?k5 ?kA ?kF ?kK ?k6 ?k7 ?k8 ?k9 ?kB ?kD ?_ ?c2 ?c3 ?c4; (case kA => exact rfl); (case kF => exact rfl); (case kK => first | exact rfl | assumption); (case k1 => k_asm); (case k2 => k_asm); (case k3 => k_asm); (case k4 => k_asm); (case k5 => k_asm); (case k6 => k_is); (case k7 => k_is); (case k8 => first | k_room | ktr_room); (case k9 => first | exact BindsTo.of_eq rfl | exact binds_K (by k_in) rfl (by k_is) rfl rfl rfl | fail "k_enter: no rule for these arguments"); (case kB => exact rfl); (case kD => decide +kernel); (case c2 => exact rfl); (case c3 => exact rfl); (case c4 => exact rfl); k_whole; intro g' L' h' tk' cells' hG' FG' F' N' Y' B' X' T' l1; (try k_lt l1); k_cells Y'; (try simp only [List.cons_append, List.nil_append] at N'); (try dsimp only); (try k_lift B'); (try k_fold))))
  have hK' := kept_of hG'
  clear hG'
  repeat' (first | (k_unfold; (try dsimp only)) | (k_end; wrow_close) | (with_reducible first | ((with_reducible show wpAny _ _ (call (Value.type "bytes") [Value.ref _]) _ _ _); k_dflt (k_here; (with_reducible rename Fr _ _ _ _ => F'); (with_reducible rename News _ _ _ _ => N'); (refine make_head F' N' rfl (by k_mem) ?_); intro _ _ _ _ _)) | (k_here; (with_reducible show wpAny _ _ (binaryOp _ (Value.bytes _ _) (Value.bytes _ _)) _ _ _); (refine add_my (by first | omega | ((try simp only [byteArr_size, Array.size_append, List.length_cons, List.length_nil]); first | omega | decide | (refine Nat.le_trans (Nat.add_le_add (Nat.add_le_add (Nat.le_refl _) (picked_size_le (by assumption))) (by assumption)) (by omega)) | (refine Nat.le_trans (Nat.add_le_add (Nat.le_refl _) (picked_size_le (by assumption))) (by omega)))) ?_); intro _ _) | (k_here; (with_reducible show wpAny _ _ (subscriptTail _ _ (Value.bytes _ _) (Value.int _ _)) _ _ _); (refine item_my (by first | omega | ((try simp only [byteArr_size, Array.size_append, List.length_cons, List.length_nil]); first | omega | decide | (refine Nat.le_trans (Nat.add_le_add (Nat.add_le_add (Nat.le_refl _) (picked_size_le (by assumption))) (by assumption)) (by omega)) | (refine Nat.le_trans (Nat.add_le_add (Nat.le_refl _) (picked_size_le (by assumption))) (by omega)))) (by first | omega | ((try simp only [byteArr_size, Array.size_append, List.length_cons, List.length_nil]); first | omega | decide | (refine Nat.le_trans (Nat.add_le_add (Nat.add_le_add (Nat.le_refl _) (picked_size_le (by assumption))) (by assumption)) (by omega)) | (refine Nat.le_trans (Nat.add_le_add (Nat.le_refl _) (picked_size_le (by assumption))) (by omega)))) (by first | omega | ((try simp only [byteArr_size, Array.size_append, List.length_cons, List.length_nil]); first | omega | decide | (refine Nat.le_trans (Nat.add_le_add (Nat.add_le_add (Nat.le_refl _) (picked_size_le (by assumption))) (by assumption)) (by omega)) | (refine Nat.le_trans (Nat.add_le_add (Nat.le_refl _) (picked_size_le (by assumption))) (by omega)))) ?_); intro _ _ _ _) | (k_here; (with_reducible show wpAny _ _ (subscriptTail _ (PySem.Expr.Slice _ _ none _) (Value.bytes _ _) (Value.ref _)) _ _ _); (with_reducible rename Fr _ _ _ _ => F'); (with_reducible rename News _ _ _ _ => N'); (refine slice_my (s := ⟨_, _, _, _, _⟩) F' N' (by constructor) (by constructor) (by first | omega | ((try simp only [byteArr_size, Array.size_append, List.length_cons, List.length_nil]); first | omega | decide | (refine Nat.le_trans (Nat.add_le_add (Nat.add_le_add (Nat.le_refl _) (picked_size_le (by assumption))) (by assumption)) (by omega)) | (refine Nat.le_trans (Nat.add_le_add (Nat.le_refl _) (picked_size_le (by assumption))) (by omega)))) ?_); intro _ _ _ _ _) | ((with_reducible show wpAny _ _ (execs [] _) _ _ _); (k_here; (with_reducible refine gen_toks ?_); intro _; (with_reducible refine wpAny_execs_nil ?_))) | ((with_reducible show wpAny _ _ (execs (_ :: _) _) _ _ _); (k_here; (with_reducible refine gen_toks ?_); intro _; (with_reducible refine wpAny_execs_cons ?_); (try k_fold)))) | walk1 | (dsimp only) | (leave1; walk_say "STEP leave1"; try dsimp only) | fail "no step")
  all_goals first
    | exact hret _ [] _ _ (.inl ⟨.inl (by assumption), rfl⟩) (by exact Kept.trans (by assumption) (Fr.keep (by assumption))) (by k_asm) News.nil
    | exact hret _ [] _ _ (.inl ⟨.inr (.inl (by assumption)), rfl⟩) (by exact Kept.trans (by assumption) (Fr.keep (by assumption))) (by k_asm) News.nil
    | exact hret _ [] _ _ (.inl ⟨.inr (.inr (by assumption)), rfl⟩) (by exact Kept.trans (by assumption) (Fr.keep (by assumption))) (by k_asm) News.nil
    | exact hret _ [] _ _ (.inr ⟨⟨by assumption, by assumption, by assumption⟩, _, rfl⟩) (by exact Kept.trans (by assumption) (Fr.keep (by assumption))) (by k_asm) News.nil
/-- a reset is made -/
theorem resetSome_does {w : World} {n due : Int} {b f : Array UInt8} {tn t u : Tok} (hb : b.size = 16) (hf : f.size ≤ 1000) (hd : due = if 42 < n - 1 then 42 else n - 1) (h1 : 21 ≤ due) (h2 : due - 16 ≤ (f.size : Int)) :
    Does w 10 28 [.int n tn, .bytes b t, .bytes f u] [] (fun r _ => ∃ t', r = .bytes (resArr due b f) t') := by
  intro p loose mean mg mb dp un gd cn cs a ccd cl outer A₀ base h₀ L m s Q E B F X N T hk hdp hun hret
  have kM := kstMark
  refine resetFor_does (by omega) hf p loose mean mg mb dp un gd cn cs a ccd cl outer A₀ base h₀ L m s Q E B F X N T hk hdp hun fun r post h' tk' hR hK F' N' => hret r post h' tk' ?_ hK F' N'
  rw [← hd] at hR
  rcases hR with ⟨h, _⟩ | ⟨_, h⟩
  · omega
  · exact h
/-- none is made -/
theorem resetNone_does {w : World} {n : Int} {b f : Array UInt8} {tn t u : Tok} (hb : b.size ≤ 100) (hf : f.size ≤ 1000)
    (h : (if 42 < n - 1 then 42 else n - 1) < 21 ∨ (f.size : Int) < (if 42 < n - 1 then 42 else n - 1) - 16 ∨ (b.size : Int) ≠ 16) :
    Does w 10 28 [.int n tn, .bytes b t, .bytes f u] [] (fun r _ => r = .none) := by
  intro p loose mean mg mb dp un gd cn cs a ccd cl outer A₀ base h₀ L m s Q E B F X N T hk hdp hun hret
  have kM := kstMark
  refine resetFor_does hb hf p loose mean mg mb dp un gd cn cs a ccd cl outer A₀ base h₀ L m s Q E B F X N T hk hdp hun fun r post h' tk' hR hK F' N' => hret r post h' tk' ?_ hK F' N'
  rcases hR with ⟨_, h⟩ | ⟨h', _⟩
  · exact h
  · omega
end
section
theorem min_due {d : Int} (h : d ≤ 42) : d = if 42 < d + 1 - 1 then 42 else d + 1 - 1 := by split <;> omega
set_option maxHeartbeats 8000000 in
theorem right_does {w : World} {due : Int} {d : Nat} {tok fil found : Array UInt8} {t u v x : Tok} (hd : due = (d : Int)) (h1 : 21 ≤ d) (h2 : d ≤ 42) (hs : found.size = d) (ht : tok.size = 16) (hf : fil.size = 42)
    (f1 : Int.fdiv ((KBw.bInts found).getD (Int.toNat 0) 0) 64 = 1) (f2 : Int.fmod ((KBw.bInts found).getD (Int.toNat 0) 0) 64 = Int.fmod ((KBw.bInts fil).getD (Int.toNat 0) 0) 64)
    (e1 : KBy.picked found (some 1) (some (due - 16)) = KBy.picked fil (some 1) (some (due - 16)))
    (e2 : KBy.picked found (some (due - 16)) none = tok) (e2b : KBy.picked found (some ((found.size : Int) - 16)) none = tok)
    (e3 : resArr due tok (KBy.picked fil none (some (due - 16))) = found)
    (s1 : (KBy.picked fil none (some (due - 16))).size = d - 16)
    (s2 : (KBy.picked fil none (some (due - 17))).size = d - 17)
    (s3 : (KBy.picked tok none (some 15)).size = 15)
    (s4 : (KBy.picked found (some (due - 20)) none).size = 20) :
    Does w 20 175 [.bytes found t, .int due u, .bytes tok v, .bytes fil x] [] (fun r _ => r = .bool true) := by
  intro p loose mean mg mb dp un gd cn cs a ccd cl outer A₀ base h₀ L m s Q E B F X N T hk hdp hun hret
  have kM := kstMark
  refine wpAny_call ?_
  (first
  | (k_dflt (refine' code_keep ?k1 ?k2 ?k3 ?k4 ?k5 ?kA ?kF ?kK ?k6 ?k7 ?k8 ?k9 ?kB ?_ ?c2 ?c3 ?c4 ?c5; (case kA => exact rfl); (case kF => exact rfl); (case kK => first | exact rfl | assumption); (case k1 => k_asm); (case k2 => k_asm); (case k3 => k_asm); (case k4 => k_asm); (case k5 => k_asm); (case k6 => k_is); (case k7 => k_is); (case k8 => first | k_room | ktr_room); (case k9 => first | exact BindsTo.of_eq rfl | exact binds_K (by k_in) rfl (by k_is) rfl rfl rfl | fail "k_enter: no rule for these arguments"); (case c5 => decide); (case kB => exact locs rfl); (case c2 => exact rfl); (case c3 => exact rfl); (case c4 => exact rfl); k_whole; intro g' L' h' hG' FG' F' N' B' X' T'; (try dsimp only); (try k_lift B'); (try k_fold)))
  | (k_dflt (refine' code_keepC ?k1 ?k2 ?k3 ?k4 ?k5 ?kA ?kF ?kK ?k6 ?k7 ?k8 ?k9 ?kB ?kD ?_ ?c2 ?c3 ?c4; (case kA => exact rfl); (case kF => exact rfl); (case kK => first | exact rfl | assumption); (case k1 => k_asm); (case k2 => k_asm); (case k3 => k_asm); (case k4 => k_asm); (case k5 => k_asm); (case k6 => k_is); (case k7 => k_is); (case k8 => first | k_room | ktr_room); (case k9 => first | exact BindsTo.of_eq rfl | exact binds_K (by k_in) rfl (by k_is) rfl rfl rfl | fail "k_enter: no rule for these arguments"); (case kB => exact rfl); (case kD => decide +kernel); (case c2 => exact rfl); (case c3 => exact rfl); (case c4 => exact rfl); k_whole; intro g' L' h' tk' cells' hG' FG' F' N' Y' B' X' T' l1; (try k_lt l1); k_cells Y'; (try simp only [List.cons_append, List.nil_append] at N'); (try dsimp only); (try k_lift B'); (try k_fold))))
  have hK' := kept_of hG'
  clear hG'
  repeat' (first | (k_unfold; (try dsimp only)) | (k_end; wrow_close) | (with_reducible first | ((with_reducible show wpAny _ _ (exec (Stmt.If _ _ _ _) _) _ _ _); (k_here; with_reducible refine wpAny_If ?_)) | (k_here; (with_reducible show wpAny _ _ (compareOp _ (Value.int _ _) (Value.int _ _)) _ _ _); (refine nei_same (by first | (with_reducible assumption) | omega) ?_)) | (k_here; (with_reducible show wpAny _ _ (compareOp _ (Value.bytes _ _) (Value.bytes _ _)) _ _ _); (refine neb_same (by with_reducible assumption) ?_)) | ((with_reducible show wpAny _ _ (call (Value.ref _) _) _ _ _); (first | ((with_reducible show wpAny _ _ (call (Value.ref 35) _) _ _ _); (k_here; k_dflt (refine' Does.read (tokIn_does ?hb ?hc) ?kr ?k1 ?k2 ?k3 ?k4 ?k5 ?kK ?kd ?ku ?ks ?_; (case kr => first | (intro _ _ hR; exact hR.2) | (intro _ _ _ q hq; cases hq)); (case k1 => k_asm); (case k2 => k_asm); (case k3 => k_asm); (case k4 => k_asm); (case k5 => k_asm); (case kK => first | exact rfl | assumption); (case kd => first | decide | ktr_room); (case ku => ktr_units); (case ks => first | (dsimp only [sh]; (refine' List.forall_mem_cons.mpr ⟨?ma, List.forall_mem_cons.mpr ⟨?mb, List.forall_mem_cons.mpr ⟨?mc, List.forall_mem_cons.mpr ⟨?md, List.forall_mem_cons.mpr ⟨?me, List.forall_mem_nil _⟩⟩⟩⟩⟩); (case ma => k_mem); (case mb => k_mem); (case mc => k_mem); (case md => k_mem); (case me => k_mem)) | (intro q hq; cases hq)))); (case hb => omega); (case hc => omega); (intro r9 post9 h9 tk9 hR9 F9 N9); (obtain ⟨t9, hR9⟩ := hR9); (subst hR9); (try dsimp only); (try k_fold)) | ((with_reducible show wpAny _ _ (call (Value.ref 35) _) _ _ _); (k_here; k_dflt (refine' Does.read (tokNo_does ?hb) ?kr ?k1 ?k2 ?k3 ?k4 ?k5 ?kK ?kd ?ku ?ks ?_; (case kr => first | (intro _ _ hR; exact hR.2) | (intro _ _ _ q hq; cases hq)); (case k1 => k_asm); (case k2 => k_asm); (case k3 => k_asm); (case k4 => k_asm); (case k5 => k_asm); (case kK => first | exact rfl | assumption); (case kd => first | decide | ktr_room); (case ku => ktr_units); (case ks => first | (dsimp only [sh]; (refine' List.forall_mem_cons.mpr ⟨?ma, List.forall_mem_cons.mpr ⟨?mb, List.forall_mem_cons.mpr ⟨?mc, List.forall_mem_cons.mpr ⟨?md, List.forall_mem_cons.mpr ⟨?me, List.forall_mem_nil _⟩⟩⟩⟩⟩); (case ma => k_mem); (case mb => k_mem); (case mc => k_mem); (case md => k_mem); (case me => k_mem)) | (intro q hq; cases hq)))); (case hb => omega); (intro r9 post9 h9 tk9 hR9 F9 N9); (subst hR9); (try dsimp only); (try k_fold)) | ((with_reducible show wpAny _ _ (call (Value.ref 28) _) _ _ _); (k_here; k_dflt (refine' Does.read (resetSome_does ?hb ?hf ?hd ?h1 ?h2) ?kr ?k1 ?k2 ?k3 ?k4 ?k5 ?kK ?kd ?ku ?ks ?_; (case kr => first | (intro _ _ hR; exact hR.2) | (intro _ _ _ q hq; cases hq)); (case k1 => k_asm); (case k2 => k_asm); (case k3 => k_asm); (case k4 => k_asm); (case k5 => k_asm); (case kK => first | exact rfl | assumption); (case kd => first | decide | ktr_room); (case ku => ktr_units); (case ks => first | (dsimp only [sh]; (refine' List.forall_mem_cons.mpr ⟨?ma, List.forall_mem_cons.mpr ⟨?mb, List.forall_mem_cons.mpr ⟨?mc, List.forall_mem_cons.mpr ⟨?md, List.forall_mem_cons.mpr ⟨?me, List.forall_mem_nil _⟩⟩⟩⟩⟩); (case ma => k_mem); (case mb => k_mem); (case mc => k_mem); (case md => k_mem); (case me => k_mem)) | (intro q hq; cases hq)))); (case hb => omega); (case hf => omega); (case hd => exact min_due (by omega)); (case h1 => omega); (case h2 => omega); (intro r9 post9 h9 tk9 hR9 F9 N9); (obtain ⟨t9, hR9⟩ := hR9); (subst hR9); (try dsimp only); (try k_fold)) | ((with_reducible show wpAny _ _ (call (Value.ref 28) _) _ _ _); (k_here; k_dflt (refine' Does.read (resetNone_does ?hb ?hf ?hh) ?kr ?k1 ?k2 ?k3 ?k4 ?k5 ?kK ?kd ?ku ?ks ?_; (case kr => first | (intro _ _ hR; exact hR.2) | (intro _ _ _ q hq; cases hq)); (case k1 => k_asm); (case k2 => k_asm); (case k3 => k_asm); (case k4 => k_asm); (case k5 => k_asm); (case kK => first | exact rfl | assumption); (case kd => first | decide | ktr_room); (case ku => ktr_units); (case ks => first | (dsimp only [sh]; (refine' List.forall_mem_cons.mpr ⟨?ma, List.forall_mem_cons.mpr ⟨?mb, List.forall_mem_cons.mpr ⟨?mc, List.forall_mem_cons.mpr ⟨?md, List.forall_mem_cons.mpr ⟨?me, List.forall_mem_nil _⟩⟩⟩⟩⟩); (case ma => k_mem); (case mb => k_mem); (case mc => k_mem); (case md => k_mem); (case me => k_mem)) | (intro q hq; cases hq)))); (case hb => omega); (case hf => omega); (case hh => first | omega | (split <;> omega)); (intro r9 post9 h9 tk9 hR9 F9 N9); (subst hR9); (try dsimp only); (try k_fold)))) | (k_here; (with_reducible show wpAny _ _ (binaryOp _ (Value.bytes _ _) (Value.bytes _ _)) _ _ _); (refine add_my (by first | omega | ((try simp only [byteArr_size, Array.size_append, List.length_cons, List.length_nil]); first | omega | decide | (refine Nat.le_trans (Nat.add_le_add (Nat.add_le_add (Nat.le_refl _) (picked_size_le (by assumption))) (by assumption)) (by omega)) | (refine Nat.le_trans (Nat.add_le_add (Nat.le_refl _) (picked_size_le (by assumption))) (by omega)))) ?_); intro _ _) | (k_here; (with_reducible show wpAny _ _ (subscriptTail _ _ (Value.bytes _ _) (Value.int _ _)) _ _ _); (refine item_my (by first | omega | ((try simp only [byteArr_size, Array.size_append, List.length_cons, List.length_nil]); first | omega | decide | (refine Nat.le_trans (Nat.add_le_add (Nat.add_le_add (Nat.le_refl _) (picked_size_le (by assumption))) (by assumption)) (by omega)) | (refine Nat.le_trans (Nat.add_le_add (Nat.le_refl _) (picked_size_le (by assumption))) (by omega)))) (by first | omega | ((try simp only [byteArr_size, Array.size_append, List.length_cons, List.length_nil]); first | omega | decide | (refine Nat.le_trans (Nat.add_le_add (Nat.add_le_add (Nat.le_refl _) (picked_size_le (by assumption))) (by assumption)) (by omega)) | (refine Nat.le_trans (Nat.add_le_add (Nat.le_refl _) (picked_size_le (by assumption))) (by omega)))) (by first | omega | ((try simp only [byteArr_size, Array.size_append, List.length_cons, List.length_nil]); first | omega | decide | (refine Nat.le_trans (Nat.add_le_add (Nat.add_le_add (Nat.le_refl _) (picked_size_le (by assumption))) (by assumption)) (by omega)) | (refine Nat.le_trans (Nat.add_le_add (Nat.le_refl _) (picked_size_le (by assumption))) (by omega)))) ?_); intro _ _ _ _) | (k_here; (with_reducible show wpAny _ _ (subscriptTail _ (PySem.Expr.Slice _ _ none _) (Value.bytes _ _) (Value.ref _)) _ _ _); (with_reducible rename Fr _ _ _ _ => F'); (with_reducible rename News _ _ _ _ => N'); (refine slice_my (s := ⟨_, _, _, _, _⟩) F' N' (by constructor) (by constructor) (by first | omega | ((try simp only [byteArr_size, Array.size_append, List.length_cons, List.length_nil]); first | omega | decide | (refine Nat.le_trans (Nat.add_le_add (Nat.add_le_add (Nat.le_refl _) (picked_size_le (by assumption))) (by assumption)) (by omega)) | (refine Nat.le_trans (Nat.add_le_add (Nat.le_refl _) (picked_size_le (by assumption))) (by omega)))) ?_); intro _ _ _ _ _) | ((with_reducible show wpAny _ _ (execs [] _) _ _ _); (k_here; (with_reducible refine gen_toks ?_); intro _; (with_reducible refine wpAny_execs_nil ?_))) | ((with_reducible show wpAny _ _ (execs (_ :: _) _) _ _ _); (k_here; (with_reducible refine gen_toks ?_); intro _; (with_reducible refine wpAny_execs_cons ?_); (try k_fold)))) | walk1 | (dsimp only) | (leave1; walk_say "STEP leave1"; try dsimp only) | fail "no step")
  all_goals first
    | exact hret _ [] _ _ rfl (by exact Kept.trans (by assumption) (Fr.keep (by assumption))) (by k_asm) News.nil
theorem right2_does {w : World} {due : Int} {d : Nat} {tok fil : Array UInt8} {t u v x : Tok} (hd : due = (d : Int)) (h1 : 21 ≤ d) (h2 : d ≤ 42) (ht : tok.size = 16) (hf : fil.size = 42) :
    Does w 20 175 [.bytes (resArr due tok fil) t, .int due u, .bytes tok v, .bytes fil x] [] (fun r _ => r = .bool true) := by
  have hs := res_size (tok := tok) (fil := fil) hd h1 (by omega) ht
  have hh : (KBw.bInts (resArr due tok fil)).getD (Int.toNat 0) 0 = 64 + (KBw.bInts fil).getD (Int.toNat 0) 0 % 64 := res_head
  refine right_does hd h1 h2 hs ht hf ?_ ?_ (res_mid hd rfl h1 (by omega) ht) (res_tail hd rfl h1 (by omega) ht) (res_tail hd (by omega) h1 (by omega) ht) (res_cut hd rfl h1 (by omega))
    (hi_size (k := d - 16) (by omega) (by omega)) (hi_size (k := d - 17) (by omega) (by omega)) (hi_size (k := 15) rfl (by omega)) ?_
  · rw [hh, Int.fdiv_eq_ediv_of_nonneg _ (by decide)]; omega
  · rw [hh, Int.fmod_eq_emod_of_nonneg _ (by decide), Int.fmod_eq_emod_of_nonneg _ (by decide)]; omega
  · rw [lo_size (k := d - 20) (by omega) (by omega)]; omega
end
section
set_option maxHeartbeats 8000000 in
theorem isResetA_does {w : World} {x dx kd ul tp : Addr} {ko : Obj} {rf : RF} {tu tc td : Tok} {n : Nat} {tk : Value} {c b : Array UInt8} {v : Bool}
    (hkd : ko.IsDictOf (intKind PySem.Challenge.rw_tk0093_01.prog w) [(0, .ref tp)]) (hlo : (kd == sysModules) = false) (hb : 21 ≤ b.size) (hb2 : b.size ≤ 1000) (hv : Cmp w tk (KBy.picked b (some ((b.size : Int) - 16)) none) v) :
    Does w 10 142 [.ref x, .bytes b td] (sh w x dx kd ul tp ko rf [.int 0 tu] n c tc tk) (fun r post => r = .bool v ∧ ∀ q ∈ sh w x dx kd ul tp ko rf [.int 0 tu] n c tc tk, q ∈ post) := by
  intro p loose mean mg mb dp un gd cn cs a ccd cl outer A₀ base h₀ L m s Q E B F X N T hk hdp hun hret
  have kM := kstMark
  dsimp only [sh] at N hret
  cases v
  all_goals (
  refine wpAny_call ?_
  (first
  | (k_dflt (refine' code_keep ?k1 ?k2 ?k3 ?k4 ?k5 ?kA ?kF ?kK ?k6 ?k7 ?k8 ?k9 ?kB ?_ ?c2 ?c3 ?c4 ?c5; (case kA => exact rfl); (case kF => exact rfl); (case kK => first | exact rfl | assumption); (case k1 => k_asm); (case k2 => k_asm); (case k3 => k_asm); (case k4 => k_asm); (case k5 => k_asm); (case k6 => k_is); (case k7 => k_is); (case k8 => first | k_room | ktr_room); (case k9 => first | exact BindsTo.of_eq rfl | exact binds_K (by k_in) rfl (by k_is) rfl rfl rfl | fail "k_enter: no rule for these arguments"); (case c5 => decide); (case kB => exact locs rfl); (case c2 => exact rfl); (case c3 => exact rfl); (case c4 => exact rfl); k_whole; intro g' L' h' hG' FG' F' N' B' X' T'; (try dsimp only); (try k_lift B'); (try k_fold)))
  | (k_dflt (refine' code_keepC ?k1 ?k2 ?k3 ?k4 ?k5 ?kA ?kF ?kK ?k6 ?k7 ?k8 ?k9 ?kB ?kD ?_ ?c2 ?c3 ?c4; (case kA => exact rfl); (case kF => exact rfl); (case kK => first | exact rfl | assumption); (case k1 => k_asm); (case k2 => k_asm); (case k3 => k_asm); (case k4 => k_asm); (case k5 => k_asm); (case k6 => k_is); (case k7 => k_is); (case k8 => first | k_room | ktr_room); (case k9 => first | exact BindsTo.of_eq rfl | exact binds_K (by k_in) rfl (by k_is) rfl rfl rfl | fail "k_enter: no rule for these arguments"); (case kB => exact rfl); (case kD => decide +kernel); (case c2 => exact rfl); (case c3 => exact rfl); (case c4 => exact rfl); k_whole; intro g' L' h' tk' cells' hG' FG' F' N' Y' B' X' T' l1; (try k_lt l1); k_cells Y'; (try simp only [List.cons_append, List.nil_append] at N'); (try dsimp only); (try k_lift B'); (try k_fold))))
  have hK' := kept_of hG'
  clear hG'
  repeat' (first | (k_unfold; (try dsimp only)) | (k_end; wrow_close) | (with_reducible first | ((with_reducible show wpAny _ _ (compareOp _ _ (Value.bytes _ _)) _ _ _); (refine Cmp.go (by with_reducible assumption) ?_)) | ((with_reducible show wpAny _ _ (exec (Stmt.If _ _ _ _) _) _ _ _); (k_here; with_reducible refine wpAny_If ?_)) | (k_here; (with_reducible show wpAny _ _ (binaryOp _ (Value.bytes _ _) (Value.bytes _ _)) _ _ _); (refine add_my (by first | omega | ((try simp only [byteArr_size, Array.size_append, List.length_cons, List.length_nil]); first | omega | decide | (refine Nat.le_trans (Nat.add_le_add (Nat.add_le_add (Nat.le_refl _) (picked_size_le (by assumption))) (by assumption)) (by omega)) | (refine Nat.le_trans (Nat.add_le_add (Nat.le_refl _) (picked_size_le (by assumption))) (by omega)))) ?_); intro _ _) | (k_here; (with_reducible show wpAny _ _ (subscriptTail _ _ (Value.bytes _ _) (Value.int _ _)) _ _ _); (refine item_my (by first | omega | ((try simp only [byteArr_size, Array.size_append, List.length_cons, List.length_nil]); first | omega | decide | (refine Nat.le_trans (Nat.add_le_add (Nat.add_le_add (Nat.le_refl _) (picked_size_le (by assumption))) (by assumption)) (by omega)) | (refine Nat.le_trans (Nat.add_le_add (Nat.le_refl _) (picked_size_le (by assumption))) (by omega)))) (by first | omega | ((try simp only [byteArr_size, Array.size_append, List.length_cons, List.length_nil]); first | omega | decide | (refine Nat.le_trans (Nat.add_le_add (Nat.add_le_add (Nat.le_refl _) (picked_size_le (by assumption))) (by assumption)) (by omega)) | (refine Nat.le_trans (Nat.add_le_add (Nat.le_refl _) (picked_size_le (by assumption))) (by omega)))) (by first | omega | ((try simp only [byteArr_size, Array.size_append, List.length_cons, List.length_nil]); first | omega | decide | (refine Nat.le_trans (Nat.add_le_add (Nat.add_le_add (Nat.le_refl _) (picked_size_le (by assumption))) (by assumption)) (by omega)) | (refine Nat.le_trans (Nat.add_le_add (Nat.le_refl _) (picked_size_le (by assumption))) (by omega)))) ?_); intro _ _ _ _) | (k_here; (with_reducible show wpAny _ _ (subscriptTail _ (PySem.Expr.Slice _ _ none _) (Value.bytes _ _) (Value.ref _)) _ _ _); (with_reducible rename Fr _ _ _ _ => F'); (with_reducible rename News _ _ _ _ => N'); (refine slice_my (s := ⟨_, _, _, _, _⟩) F' N' (by constructor) (by constructor) (by first | omega | ((try simp only [byteArr_size, Array.size_append, List.length_cons, List.length_nil]); first | omega | decide | (refine Nat.le_trans (Nat.add_le_add (Nat.add_le_add (Nat.le_refl _) (picked_size_le (by assumption))) (by assumption)) (by omega)) | (refine Nat.le_trans (Nat.add_le_add (Nat.le_refl _) (picked_size_le (by assumption))) (by omega)))) ?_); intro _ _ _ _ _) | ((with_reducible show wpAny _ _ (execs [] _) _ _ _); (k_here; (with_reducible refine gen_toks ?_); intro _; (with_reducible refine wpAny_execs_nil ?_))) | ((with_reducible show wpAny _ _ (execs (_ :: _) _) _ _ _); (k_here; (with_reducible refine gen_toks ?_); intro _; (with_reducible refine wpAny_execs_cons ?_); (try k_fold)))) | walk1 | (dsimp only) | (leave1; walk_say "STEP leave1"; try dsimp only) | fail "no step")
  )
  all_goals first
    | exact hret _ _ _ _ ⟨rfl, fun _ h => h⟩ (by exact Kept.trans (by assumption) (Fr.keep (by assumption))) (by k_asm) (cb_drop (by k_asm) (by intro q hq; first | exact hq | exact List.mem_cons_of_mem _ hq))
set_option maxHeartbeats 8000000 in
theorem isResetP_does {w : World} {x dx kd ul tp tq : Addr} {ko : Obj} {rf : RF} {tu tc td : Tok} {n : Nat} {tk : Value} {c b : Array UInt8} {v : Bool}
    (hkd : ko.IsDictOf (intKind PySem.Challenge.rw_tk0093_01.prog w) [(0, .ref tp), (1, .ref tq)]) (hlo : (kd == sysModules) = false) (hb : 21 ≤ b.size) (hb2 : b.size ≤ 1000) (hv : Cmp w tk (KBy.picked b (some ((b.size : Int) - 16)) none) v) :
    Does w 10 142 [.ref x, .bytes b td] (sh w x dx kd ul tp ko rf [.int 0 tu] n c tc tk) (fun r post => r = .bool v ∧ ∀ q ∈ sh w x dx kd ul tp ko rf [.int 0 tu] n c tc tk, q ∈ post) := by
  intro p loose mean mg mb dp un gd cn cs a ccd cl outer A₀ base h₀ L m s Q E B F X N T hk hdp hun hret
  have kM := kstMark
  dsimp only [sh] at N hret
  cases v
  all_goals (
  refine wpAny_call ?_
  (first
  | (k_dflt (refine' code_keep ?k1 ?k2 ?k3 ?k4 ?k5 ?kA ?kF ?kK ?k6 ?k7 ?k8 ?k9 ?kB ?_ ?c2 ?c3 ?c4 ?c5; (case kA => exact rfl); (case kF => exact rfl); (case kK => first | exact rfl | assumption); (case k1 => k_asm); (case k2 => k_asm); (case k3 => k_asm); (case k4 => k_asm); (case k5 => k_asm); (case k6 => k_is); (case k7 => k_is); (case k8 => first | k_room | ktr_room); (case k9 => first | exact BindsTo.of_eq rfl | exact binds_K (by k_in) rfl (by k_is) rfl rfl rfl | fail "k_enter: no rule for these arguments"); (case c5 => decide); (case kB => exact locs rfl); (case c2 => exact rfl); (case c3 => exact rfl); (case c4 => exact rfl); k_whole; intro g' L' h' hG' FG' F' N' B' X' T'; (try dsimp only); (try k_lift B'); (try k_fold)))
  | (k_dflt (refine' code_keepC ?k1 ?k2 ?k3 ?k4 ?k5 ?kA ?kF ?kK ?k6 ?k7 ?k8 ?k9 ?kB ?kD ?_ ?c2 ?c3 ?c4; (case kA => exact rfl); (case kF => exact rfl); (case kK => first | exact rfl | assumption); (case k1 => k_asm); (case k2 => k_asm); (case k3 => k_asm); (case k4 => k_asm); (case k5 => k_asm); (case k6 => k_is); (case k7 => k_is); (case k8 => first | k_room | ktr_room); (case k9 => first | exact BindsTo.of_eq rfl | exact binds_K (by k_in) rfl (by k_is) rfl rfl rfl | fail "k_enter: no rule for these arguments"); (case kB => exact rfl); (case kD => decide +kernel); (case c2 => exact rfl); (case c3 => exact rfl); (case c4 => exact rfl); k_whole; intro g' L' h' tk' cells' hG' FG' F' N' Y' B' X' T' l1; (try k_lt l1); k_cells Y'; (try simp only [List.cons_append, List.nil_append] at N'); (try dsimp only); (try k_lift B'); (try k_fold))))
  have hK' := kept_of hG'
  clear hG'
  repeat' (first | (k_unfold; (try dsimp only)) | (k_end; wrow_close) | (with_reducible first | ((with_reducible show wpAny _ _ (compareOp _ _ (Value.bytes _ _)) _ _ _); (refine Cmp.go (by with_reducible assumption) ?_)) | ((with_reducible show wpAny _ _ (exec (Stmt.If _ _ _ _) _) _ _ _); (k_here; with_reducible refine wpAny_If ?_)) | (k_here; (with_reducible show wpAny _ _ (binaryOp _ (Value.bytes _ _) (Value.bytes _ _)) _ _ _); (refine add_my (by first | omega | ((try simp only [byteArr_size, Array.size_append, List.length_cons, List.length_nil]); first | omega | decide | (refine Nat.le_trans (Nat.add_le_add (Nat.add_le_add (Nat.le_refl _) (picked_size_le (by assumption))) (by assumption)) (by omega)) | (refine Nat.le_trans (Nat.add_le_add (Nat.le_refl _) (picked_size_le (by assumption))) (by omega)))) ?_); intro _ _) | (k_here; (with_reducible show wpAny _ _ (subscriptTail _ _ (Value.bytes _ _) (Value.int _ _)) _ _ _); (refine item_my (by first | omega | ((try simp only [byteArr_size, Array.size_append, List.length_cons, List.length_nil]); first | omega | decide | (refine Nat.le_trans (Nat.add_le_add (Nat.add_le_add (Nat.le_refl _) (picked_size_le (by assumption))) (by assumption)) (by omega)) | (refine Nat.le_trans (Nat.add_le_add (Nat.le_refl _) (picked_size_le (by assumption))) (by omega)))) (by first | omega | ((try simp only [byteArr_size, Array.size_append, List.length_cons, List.length_nil]); first | omega | decide | (refine Nat.le_trans (Nat.add_le_add (Nat.add_le_add (Nat.le_refl _) (picked_size_le (by assumption))) (by assumption)) (by omega)) | (refine Nat.le_trans (Nat.add_le_add (Nat.le_refl _) (picked_size_le (by assumption))) (by omega)))) (by first | omega | ((try simp only [byteArr_size, Array.size_append, List.length_cons, List.length_nil]); first | omega | decide | (refine Nat.le_trans (Nat.add_le_add (Nat.add_le_add (Nat.le_refl _) (picked_size_le (by assumption))) (by assumption)) (by omega)) | (refine Nat.le_trans (Nat.add_le_add (Nat.le_refl _) (picked_size_le (by assumption))) (by omega)))) ?_); intro _ _ _ _) | (k_here; (with_reducible show wpAny _ _ (subscriptTail _ (PySem.Expr.Slice _ _ none _) (Value.bytes _ _) (Value.ref _)) _ _ _); (with_reducible rename Fr _ _ _ _ => F'); (with_reducible rename News _ _ _ _ => N'); (refine slice_my (s := ⟨_, _, _, _, _⟩) F' N' (by constructor) (by constructor) (by first | omega | ((try simp only [byteArr_size, Array.size_append, List.length_cons, List.length_nil]); first | omega | decide | (refine Nat.le_trans (Nat.add_le_add (Nat.add_le_add (Nat.le_refl _) (picked_size_le (by assumption))) (by assumption)) (by omega)) | (refine Nat.le_trans (Nat.add_le_add (Nat.le_refl _) (picked_size_le (by assumption))) (by omega)))) ?_); intro _ _ _ _ _) | ((with_reducible show wpAny _ _ (execs [] _) _ _ _); (k_here; (with_reducible refine gen_toks ?_); intro _; (with_reducible refine wpAny_execs_nil ?_))) | ((with_reducible show wpAny _ _ (execs (_ :: _) _) _ _ _); (k_here; (with_reducible refine gen_toks ?_); intro _; (with_reducible refine wpAny_execs_cons ?_); (try k_fold)))) | walk1 | (dsimp only) | (leave1; walk_say "STEP leave1"; try dsimp only) | fail "no step")
  )
  all_goals first
    | exact hret _ _ _ _ ⟨rfl, fun _ h => h⟩ (by exact Kept.trans (by assumption) (Fr.keep (by assumption))) (by k_asm) (cb_drop (by k_asm) (by intro q hq; first | exact hq | exact List.mem_cons_of_mem _ hq))
set_option maxHeartbeats 8000000 in
theorem isResetB_does {w : World} {x dx kd ul tp : Addr} {ko : Obj} {rf : RF} {tu tv tc td : Tok} {n : Nat} {tk : Value} {c b : Array UInt8} {v : Bool}
    (hkd : ko.IsDictOf (intKind PySem.Challenge.rw_tk0093_01.prog w) [(1, .ref tp)]) (hlo : (kd == sysModules) = false) (hb : 21 ≤ b.size) (hb2 : b.size ≤ 1000) (hv : Cmp w tk (KBy.picked b (some ((b.size : Int) - 16)) none) v) :
    Does w 10 142 [.ref x, .bytes b td] (sh w x dx kd ul tp ko rf [.int 0 tu, .int 1 tv] n c tc tk) (fun r post => r = .bool v ∧ ∀ q ∈ sh w x dx kd ul tp ko rf [.int 0 tu, .int 1 tv] n c tc tk, q ∈ post) := by
  intro p loose mean mg mb dp un gd cn cs a ccd cl outer A₀ base h₀ L m s Q E B F X N T hk hdp hun hret
  have kM := kstMark
  dsimp only [sh] at N hret
  cases v
  all_goals (
  refine wpAny_call ?_
  (first
  | (k_dflt (refine' code_keep ?k1 ?k2 ?k3 ?k4 ?k5 ?kA ?kF ?kK ?k6 ?k7 ?k8 ?k9 ?kB ?_ ?c2 ?c3 ?c4 ?c5; (case kA => exact rfl); (case kF => exact rfl); (case kK => first | exact rfl | assumption); (case k1 => k_asm); (case k2 => k_asm); (case k3 => k_asm); (case k4 => k_asm); (case k5 => k_asm); (case k6 => k_is); (case k7 => k_is); (case k8 => first | k_room | ktr_room); (case k9 => first | exact BindsTo.of_eq rfl | exact binds_K (by k_in) rfl (by k_is) rfl rfl rfl | fail "k_enter: no rule for these arguments"); (case c5 => decide); (case kB => exact locs rfl); (case c2 => exact rfl); (case c3 => exact rfl); (case c4 => exact rfl); k_whole; intro g' L' h' hG' FG' F' N' B' X' T'; (try dsimp only); (try k_lift B'); (try k_fold)))
  | (k_dflt (refine' code_keepC ?k1 ?k2 ?k3 ?k4 ?k5 ?kA ?kF ?kK ?k6 ?k7 ?k8 ?k9 ?kB ?kD ?_ ?c2 ?c3 ?c4; (case kA => exact rfl); (case kF => exact rfl); (case kK => first | exact rfl | assumption); (case k1 => k_asm); (case k2 => k_asm); (case k3 => k_asm); (case k4 => k_asm); (case k5 => k_asm); (case k6 => k_is); (case k7 => k_is); (case k8 => first | k_room | ktr_room); (case k9 => first | exact BindsTo.of_eq rfl | exact binds_K (by k_in) rfl (by k_is) rfl rfl rfl | fail "k_enter: no rule for these arguments"); (case kB => exact rfl); (case kD => decide +kernel); (case c2 => exact rfl); (case c3 => exact rfl); (case c4 => exact rfl); k_whole; intro g' L' h' tk' cells' hG' FG' F' N' Y' B' X' T' l1; (try k_lt l1); k_cells Y'; (try simp only [List.cons_append, List.nil_append] at N'); (try dsimp only); (try k_lift B'); (try k_fold))))
  have hK' := kept_of hG'
  clear hG'
  repeat' (first | (k_unfold; (try dsimp only)) | (k_end; wrow_close) | (with_reducible first | ((with_reducible show wpAny _ _ (compareOp _ _ (Value.bytes _ _)) _ _ _); (refine Cmp.go (by with_reducible assumption) ?_)) | ((with_reducible show wpAny _ _ (exec (Stmt.If _ _ _ _) _) _ _ _); (k_here; with_reducible refine wpAny_If ?_)) | (k_here; (with_reducible show wpAny _ _ (binaryOp _ (Value.bytes _ _) (Value.bytes _ _)) _ _ _); (refine add_my (by first | omega | ((try simp only [byteArr_size, Array.size_append, List.length_cons, List.length_nil]); first | omega | decide | (refine Nat.le_trans (Nat.add_le_add (Nat.add_le_add (Nat.le_refl _) (picked_size_le (by assumption))) (by assumption)) (by omega)) | (refine Nat.le_trans (Nat.add_le_add (Nat.le_refl _) (picked_size_le (by assumption))) (by omega)))) ?_); intro _ _) | (k_here; (with_reducible show wpAny _ _ (subscriptTail _ _ (Value.bytes _ _) (Value.int _ _)) _ _ _); (refine item_my (by first | omega | ((try simp only [byteArr_size, Array.size_append, List.length_cons, List.length_nil]); first | omega | decide | (refine Nat.le_trans (Nat.add_le_add (Nat.add_le_add (Nat.le_refl _) (picked_size_le (by assumption))) (by assumption)) (by omega)) | (refine Nat.le_trans (Nat.add_le_add (Nat.le_refl _) (picked_size_le (by assumption))) (by omega)))) (by first | omega | ((try simp only [byteArr_size, Array.size_append, List.length_cons, List.length_nil]); first | omega | decide | (refine Nat.le_trans (Nat.add_le_add (Nat.add_le_add (Nat.le_refl _) (picked_size_le (by assumption))) (by assumption)) (by omega)) | (refine Nat.le_trans (Nat.add_le_add (Nat.le_refl _) (picked_size_le (by assumption))) (by omega)))) (by first | omega | ((try simp only [byteArr_size, Array.size_append, List.length_cons, List.length_nil]); first | omega | decide | (refine Nat.le_trans (Nat.add_le_add (Nat.add_le_add (Nat.le_refl _) (picked_size_le (by assumption))) (by assumption)) (by omega)) | (refine Nat.le_trans (Nat.add_le_add (Nat.le_refl _) (picked_size_le (by assumption))) (by omega)))) ?_); intro _ _ _ _) | (k_here; (with_reducible show wpAny _ _ (subscriptTail _ (PySem.Expr.Slice _ _ none _) (Value.bytes _ _) (Value.ref _)) _ _ _); (with_reducible rename Fr _ _ _ _ => F'); (with_reducible rename News _ _ _ _ => N'); (refine slice_my (s := ⟨_, _, _, _, _⟩) F' N' (by constructor) (by constructor) (by first | omega | ((try simp only [byteArr_size, Array.size_append, List.length_cons, List.length_nil]); first | omega | decide | (refine Nat.le_trans (Nat.add_le_add (Nat.add_le_add (Nat.le_refl _) (picked_size_le (by assumption))) (by assumption)) (by omega)) | (refine Nat.le_trans (Nat.add_le_add (Nat.le_refl _) (picked_size_le (by assumption))) (by omega)))) ?_); intro _ _ _ _ _) | ((with_reducible show wpAny _ _ (execs [] _) _ _ _); (k_here; (with_reducible refine gen_toks ?_); intro _; (with_reducible refine wpAny_execs_nil ?_))) | ((with_reducible show wpAny _ _ (execs (_ :: _) _) _ _ _); (k_here; (with_reducible refine gen_toks ?_); intro _; (with_reducible refine wpAny_execs_cons ?_); (try k_fold)))) | walk1 | (dsimp only) | (leave1; walk_say "STEP leave1"; try dsimp only) | fail "no step")
  )
  all_goals first
    | exact hret _ _ _ _ ⟨rfl, fun _ h => h⟩ (by exact Kept.trans (by assumption) (Fr.keep (by assumption))) (by k_asm) (cb_drop (by k_asm) (by intro q hq; first | exact hq | exact List.mem_cons_of_mem _ hq))
set_option maxHeartbeats 8000000 in
/-- a datagram that is too short is none -/
theorem isResetShort_does {w : World} {x : Addr} {td : Tok} {b : Array UInt8} (hb : b.size < 21) :
    Does w 10 142 [.ref x, .bytes b td] [] (fun r _ => r = .bool false) := by
  intro p loose mean mg mb dp un gd cn cs a ccd cl outer A₀ base h₀ L m s Q E B F X N T hk hdp hun hret
  have kM := kstMark
  refine wpAny_call ?_
  (first
  | (k_dflt (refine' code_keep ?k1 ?k2 ?k3 ?k4 ?k5 ?kA ?kF ?kK ?k6 ?k7 ?k8 ?k9 ?kB ?_ ?c2 ?c3 ?c4 ?c5; (case kA => exact rfl); (case kF => exact rfl); (case kK => first | exact rfl | assumption); (case k1 => k_asm); (case k2 => k_asm); (case k3 => k_asm); (case k4 => k_asm); (case k5 => k_asm); (case k6 => k_is); (case k7 => k_is); (case k8 => first | k_room | ktr_room); (case k9 => first | exact BindsTo.of_eq rfl | exact binds_K (by k_in) rfl (by k_is) rfl rfl rfl | fail "k_enter: no rule for these arguments"); (case c5 => decide); (case kB => exact locs rfl); (case c2 => exact rfl); (case c3 => exact rfl); (case c4 => exact rfl); k_whole; intro g' L' h' hG' FG' F' N' B' X' T'; (try dsimp only); (try k_lift B'); (try k_fold)))
  | (k_dflt (refine' code_keepC ?k1 ?k2 ?k3 ?k4 ?k5 ?kA ?kF ?kK ?k6 ?k7 ?k8 ?k9 ?kB ?kD ?_ ?c2 ?c3 ?c4; (case kA => exact rfl); (case kF => exact rfl); (case kK => first | exact rfl | assumption); (case k1 => k_asm); (case k2 => k_asm); (case k3 => k_asm); (case k4 => k_asm); (case k5 => k_asm); (case k6 => k_is); (case k7 => k_is); (case k8 => first | k_room | ktr_room); (case k9 => first | exact BindsTo.of_eq rfl | exact binds_K (by k_in) rfl (by k_is) rfl rfl rfl | fail "k_enter: no rule for these arguments"); (case kB => exact rfl); (case kD => decide +kernel); (case c2 => exact rfl); (case c3 => exact rfl); (case c4 => exact rfl); k_whole; intro g' L' h' tk' cells' hG' FG' F' N' Y' B' X' T' l1; (try k_lt l1); k_cells Y'; (try simp only [List.cons_append, List.nil_append] at N'); (try dsimp only); (try k_lift B'); (try k_fold))))
  have hK' := kept_of hG'
  clear hG'
  repeat' (first | (k_unfold; (try dsimp only)) | (k_end; wrow_close) | (with_reducible first | ((with_reducible show wpAny _ _ (compareOp _ _ (Value.bytes _ _)) _ _ _); (refine Cmp.go (by with_reducible assumption) ?_)) | ((with_reducible show wpAny _ _ (exec (Stmt.If _ _ _ _) _) _ _ _); (k_here; with_reducible refine wpAny_If ?_)) | (k_here; (with_reducible show wpAny _ _ (binaryOp _ (Value.bytes _ _) (Value.bytes _ _)) _ _ _); (refine add_my (by first | omega | ((try simp only [byteArr_size, Array.size_append, List.length_cons, List.length_nil]); first | omega | decide | (refine Nat.le_trans (Nat.add_le_add (Nat.add_le_add (Nat.le_refl _) (picked_size_le (by assumption))) (by assumption)) (by omega)) | (refine Nat.le_trans (Nat.add_le_add (Nat.le_refl _) (picked_size_le (by assumption))) (by omega)))) ?_); intro _ _) | (k_here; (with_reducible show wpAny _ _ (subscriptTail _ _ (Value.bytes _ _) (Value.int _ _)) _ _ _); (refine item_my (by first | omega | ((try simp only [byteArr_size, Array.size_append, List.length_cons, List.length_nil]); first | omega | decide | (refine Nat.le_trans (Nat.add_le_add (Nat.add_le_add (Nat.le_refl _) (picked_size_le (by assumption))) (by assumption)) (by omega)) | (refine Nat.le_trans (Nat.add_le_add (Nat.le_refl _) (picked_size_le (by assumption))) (by omega)))) (by first | omega | ((try simp only [byteArr_size, Array.size_append, List.length_cons, List.length_nil]); first | omega | decide | (refine Nat.le_trans (Nat.add_le_add (Nat.add_le_add (Nat.le_refl _) (picked_size_le (by assumption))) (by assumption)) (by omega)) | (refine Nat.le_trans (Nat.add_le_add (Nat.le_refl _) (picked_size_le (by assumption))) (by omega)))) (by first | omega | ((try simp only [byteArr_size, Array.size_append, List.length_cons, List.length_nil]); first | omega | decide | (refine Nat.le_trans (Nat.add_le_add (Nat.add_le_add (Nat.le_refl _) (picked_size_le (by assumption))) (by assumption)) (by omega)) | (refine Nat.le_trans (Nat.add_le_add (Nat.le_refl _) (picked_size_le (by assumption))) (by omega)))) ?_); intro _ _ _ _) | (k_here; (with_reducible show wpAny _ _ (subscriptTail _ (PySem.Expr.Slice _ _ none _) (Value.bytes _ _) (Value.ref _)) _ _ _); (with_reducible rename Fr _ _ _ _ => F'); (with_reducible rename News _ _ _ _ => N'); (refine slice_my (s := ⟨_, _, _, _, _⟩) F' N' (by constructor) (by constructor) (by first | omega | ((try simp only [byteArr_size, Array.size_append, List.length_cons, List.length_nil]); first | omega | decide | (refine Nat.le_trans (Nat.add_le_add (Nat.add_le_add (Nat.le_refl _) (picked_size_le (by assumption))) (by assumption)) (by omega)) | (refine Nat.le_trans (Nat.add_le_add (Nat.le_refl _) (picked_size_le (by assumption))) (by omega)))) ?_); intro _ _ _ _ _) | ((with_reducible show wpAny _ _ (execs [] _) _ _ _); (k_here; (with_reducible refine gen_toks ?_); intro _; (with_reducible refine wpAny_execs_nil ?_))) | ((with_reducible show wpAny _ _ (execs (_ :: _) _) _ _ _); (k_here; (with_reducible refine gen_toks ?_); intro _; (with_reducible refine wpAny_execs_cons ?_); (try k_fold)))) | walk1 | (dsimp only) | (leave1; walk_say "STEP leave1"; try dsimp only) | fail "no step")
  all_goals first
    | exact hret _ [] _ _ rfl (by exact Kept.trans (by assumption) (Fr.keep (by assumption))) (by k_asm) News.nil
end
section
set_option maxHeartbeats 8000000 in
theorem setTokG_does {w : World} {x dx kd td tp tq : Addr} {ko to : Obj} {rf : RF} {us : Value} {c c' : Array UInt8} {tc tc' : Tok} {tk tk' : Value} {TA : Array UInt8} {tt : Tok}
    (hkd : ko.IsDictOf (intKind PySem.Challenge.rw_tk0093_01.prog w) [(0, .ref tp)]) (hlo : (kd == sysModules) = false) (htd : to.IsDictOf (intKind PySem.Challenge.rw_tk0093_01.prog w) [(0, .ref tq)]) (hlt : (td == sysModules) = false)
    (d1 : @Ne Nat x dx) (d2 : @Ne Nat x kd) (d3 : @Ne Nat x td) (d4 : @Ne Nat dx kd) (d5 : @Ne Nat dx td) (d6 : @Ne Nat kd td) (d7 : @Ne Nat kd tp) (d8 : @Ne Nat kd tq) (d9 : @Ne Nat td tp) (d10 : @Ne Nat td tq) :
    DoesG w 10 76 [.ref x, .bytes TA tt] [(x, instObj 145 dx), (dx, dictOf (remEs w { rf with to := .ref td } (.ref kd) us) 8), (kd, ko), (td, to), (tp, tup [.bytes c tc, tk]), (tq, tup [.bytes c' tc', tk'])]
      (fun r post => r = .none ∧ ∃ (tp' tq' : Addr) (ko' to' : Obj), ko'.IsDictOf (intKind PySem.Challenge.rw_tk0093_01.prog w) [(0, .ref tp')] ∧ to'.IsDictOf (intKind PySem.Challenge.rw_tk0093_01.prog w) [(0, .ref tq')] ∧
        post = [(x, instObj 145 dx), (dx, dictOf (remEs w { rf with to := .ref td } (.ref kd) us) 8), (kd, ko'), (td, to'), (tp', tup [.bytes c tc, .bytes TA tt]), (tq', tup [.bytes c' tc', .bytes TA tt])]) := by
  intro p loose mean mg mb dp un gd cn cs a ccd cl outer A₀ base h₀ L m s Q E B F X N T hk hdp hun hret
  have kM := kstMark
  dsimp only [remEs] at N
  refine wpAny_call ?_
  (first
  | (k_dflt (refine' code_keep ?k1 ?k2 ?k3 ?k4 ?k5 ?kA ?kF ?kK ?k6 ?k7 ?k8 ?k9 ?kB ?_ ?c2 ?c3 ?c4 ?c5; (case kA => exact rfl); (case kF => exact rfl); (case kK => first | exact rfl | assumption); (case k1 => k_asm); (case k2 => k_asm); (case k3 => k_asm); (case k4 => k_asm); (case k5 => k_asm); (case k6 => k_is); (case k7 => k_is); (case k8 => first | k_room | ktr_room); (case k9 => first | exact BindsTo.of_eq rfl | exact binds_K (by k_in) rfl (by k_is) rfl rfl rfl | fail "k_enter: no rule for these arguments"); (case c5 => decide); (case kB => exact locs rfl); (case c2 => exact rfl); (case c3 => exact rfl); (case c4 => exact rfl); k_whole; intro g' L' h' hG' FG' F' N' B' X' T'; (try dsimp only); (try k_lift B'); (try k_fold)))
  | (k_dflt (refine' code_keepC ?k1 ?k2 ?k3 ?k4 ?k5 ?kA ?kF ?kK ?k6 ?k7 ?k8 ?k9 ?kB ?kD ?_ ?c2 ?c3 ?c4; (case kA => exact rfl); (case kF => exact rfl); (case kK => first | exact rfl | assumption); (case k1 => k_asm); (case k2 => k_asm); (case k3 => k_asm); (case k4 => k_asm); (case k5 => k_asm); (case k6 => k_is); (case k7 => k_is); (case k8 => first | k_room | ktr_room); (case k9 => first | exact BindsTo.of_eq rfl | exact binds_K (by k_in) rfl (by k_is) rfl rfl rfl | fail "k_enter: no rule for these arguments"); (case kB => exact rfl); (case kD => decide +kernel); (case c2 => exact rfl); (case c3 => exact rfl); (case c4 => exact rfl); k_whole; intro g' L' h' tk' cells' hG' FG' F' N' Y' B' X' T' l1; (try k_lt l1); k_cells Y'; (try simp only [List.cons_append, List.nil_append] at N'); (try dsimp only); (try k_lift B'); (try k_fold))))
  have hK' := kept_of hG'
  clear hG'
  repeat' (first | (k_unfold; (try dsimp only)) | (k_end; wrow_close) | (with_reducible first | ((with_reducible show wpAny _ _ (exec (Stmt.If _ _ _ _) _) _ _ _); (k_here; with_reducible refine wpAny_If ?_)) | ((with_reducible show wpAny _ _ (execs [] _) _ _ _); (k_here; (with_reducible refine gen_toks ?_); intro _; (with_reducible refine wpAny_execs_nil ?_))) | ((with_reducible show wpAny _ _ (execs (_ :: _) _) _ _ _); (k_here; (with_reducible refine gen_toks ?_); intro _; (with_reducible refine wpAny_execs_cons ?_); (try k_fold)))) | walk1 | (dsimp only) | (leave1; walk_say "STEP leave1"; try dsimp only) | fail "no step")
  refine' hret _ [(x, instObj 145 dx), (dx, dictOf (remEs w { rf with to := .ref td } (.ref kd) us) 8), (kd, ?ko1), (td, ?to1), (?tp1, tup [.bytes c tc, .bytes TA tt]), (?tq1, tup [.bytes c' tc', .bytes TA tt])] _ _ ⟨rfl, ?tp1, ?tq1, ?ko1, ?to1, ?hk1, ?ht1, rfl⟩ (fresh_or hK' (cb_drop ?N1 ?sub1)) (by exact Kept.trans (by assumption) (Fr.keep (by assumption))) (by k_asm) (cb_drop (by k_asm) ?sub1)
  case N1 => assumption
  case sub1 =>
    refine' List.forall_mem_cons.mpr ⟨?ma, List.forall_mem_cons.mpr ⟨?mb, List.forall_mem_cons.mpr ⟨?mc, List.forall_mem_cons.mpr ⟨?md, List.forall_mem_cons.mpr ⟨?me, List.forall_mem_cons.mpr ⟨?mf, List.forall_mem_nil _⟩⟩⟩⟩⟩⟩
    (case ma => k_mem); (case mb => k_mem); (case mc => k_mem); (case md => k_mem); (case me => k_mem); (case mf => k_mem)
  case hk1 => assumption
  case ht1 => assumption
theorem setTok_does {w : World} {x dx kd td tp tq : Addr} {ko to : Obj} {rf : RF} {us : Value} {c c' : Array UInt8} {tc tc' : Tok} {tk tk' : Value} {TA : Array UInt8} {tt : Tok}
    (hkd : ko.IsDictOf (intKind PySem.Challenge.rw_tk0093_01.prog w) [(0, .ref tp)]) (hlo : (kd == sysModules) = false) (htd : to.IsDictOf (intKind PySem.Challenge.rw_tk0093_01.prog w) [(0, .ref tq)]) (hlt : (td == sysModules) = false)
    (d1 : @Ne Nat x dx) (d2 : @Ne Nat x kd) (d3 : @Ne Nat x td) (d4 : @Ne Nat dx kd) (d5 : @Ne Nat dx td) (d6 : @Ne Nat kd td) (d7 : @Ne Nat kd tp) (d8 : @Ne Nat kd tq) (d9 : @Ne Nat td tp) (d10 : @Ne Nat td tq) :
    Does w 10 76 [.ref x, .bytes TA tt] [(x, instObj 145 dx), (dx, dictOf (remEs w { rf with to := .ref td } (.ref kd) us) 8), (kd, ko), (td, to), (tp, tup [.bytes c tc, tk]), (tq, tup [.bytes c' tc', tk'])]
      (fun r post => r = .none ∧ ∃ (tp' tq' : Addr) (ko' to' : Obj), ko'.IsDictOf (intKind PySem.Challenge.rw_tk0093_01.prog w) [(0, .ref tp')] ∧ to'.IsDictOf (intKind PySem.Challenge.rw_tk0093_01.prog w) [(0, .ref tq')] ∧
        post = [(x, instObj 145 dx), (dx, dictOf (remEs w { rf with to := .ref td } (.ref kd) us) 8), (kd, ko'), (td, to'), (tp', tup [.bytes c tc, .bytes TA tt]), (tq', tup [.bytes c' tc', .bytes TA tt])]) :=
  DoesG.does (setTokG_does hkd hlo htd hlt d1 d2 d3 d4 d5 d6 d7 d8 d9 d10)
end
section
/-- where an end's ids stand, and what they hold beside the token -/
structure EP where
  (dx kd td ul tr tp tq : Addr) (ko to : Obj) (t0 t1 t2 t3 t4 t5 t6 t7 tu tc tc' : Tok) (lim cu rp em tk' : Value) (c c' : Array UInt8)
abbrev EP.led (w : World) (x : Addr) (tk : Value) (e : EP) : List (Addr × Obj) :=
  [(x, instObj 145 e.dx), (e.dx, dictOf [ent w "limit" e.t0 e.lim, ent w "known" e.t1 (.ref e.kd), ent w "current" e.t2 e.cu, ent w "used" e.t3 (.ref e.ul), ent w "retire_prior" e.t4 e.rp, ent w "told" e.t5 (.ref e.td), ent w "to_retire" e.t6 (.ref e.tr), ent w "is_empty" e.t7 e.em] 8),
    (e.kd, e.ko), (e.td, e.to), (e.ul, W.listOf #[.int 0 e.tu] 0), (e.tr, W.listOf #[] 0), (e.tp, tup [.bytes e.c e.tc, tk]), (e.tq, tup [.bytes e.c' e.tc', e.tk'])]
structure EP.Ok (w : World) (x : Addr) (e : EP) : Prop where
  k : e.ko.IsDictOf (intKind PySem.Challenge.rw_tk0093_01.prog w) [(0, .ref e.tp)]
  t : e.to.IsDictOf (intKind PySem.Challenge.rw_tk0093_01.prog w) [(0, .ref e.tq)]
  km : (e.kd == sysModules) = false
  tm : (e.td == sysModules) = false
  ord : @LT.lt Nat _ e.dx x ∧ @LT.lt Nat _ x e.kd ∧ @LT.lt Nat _ e.kd e.ul ∧ @LT.lt Nat _ e.ul e.td ∧ @LT.lt Nat _ e.td e.tr
/-- an end's ids, with the token that they hold -/
def IsEnd (w : World) (x : Addr) (tk : Value) (E : List (Addr × Obj)) : Prop := ∃ e : EP, e.Ok w x ∧ E = e.led w x tk
theorem dict_ne_tup {K : Type} [DecidableEq K] {prog : Program} {w : World} {knd : KeyKind prog w K} {o : Obj} {kvs : List (K × Value)} {vs : List Value} (h : o.IsDictOf knd kvs) : o ≠ tup vs := by
  obtain ⟨es, ep, _, hd, _⟩ := h
  intro e
  rw [e] at hd
  cases hd
theorem setTok_end {w : World} {x : Addr} {tk : Value} {E₁ : List (Addr × Obj)} {TA : Array UInt8} {tt : Tok} (he : IsEnd w x tk E₁) :
    DoesG w 10 76 [.ref x, .bytes TA tt] E₁ (fun r post => r = .none ∧ IsEnd w x (.bytes TA tt) post) := by
  obtain ⟨e, ⟨hk1, ht1, km, tm, o1, o2, o3, o4, o5⟩, rfl⟩ := he
  intro p loose mean mg mb dp un gd cn cs a ccd cl outer A₀ base h₀ L m s Q E B F X N T hk hdp hun hret
  have m0 : (x, instObj 145 e.dx) ∈ e.led w x tk := List.mem_cons_self ..
  have m2 : (e.kd, e.ko) ∈ e.led w x tk := List.mem_cons_of_mem _ (List.mem_cons_of_mem _ (List.mem_cons_self ..))
  have m3 : (e.td, e.to) ∈ e.led w x tk := List.mem_cons_of_mem _ (List.mem_cons_of_mem _ (List.mem_cons_of_mem _ (List.mem_cons_self ..)))
  have m4 : (e.ul, W.listOf #[.int 0 e.tu] 0) ∈ e.led w x tk := List.mem_cons_of_mem _ (List.mem_cons_of_mem _ (List.mem_cons_of_mem _ (List.mem_cons_of_mem _ (List.mem_cons_self ..))))
  have m5 : (e.tr, W.listOf #[] 0) ∈ e.led w x tk := List.mem_cons_of_mem _ (List.mem_cons_of_mem _ (List.mem_cons_of_mem _ (List.mem_cons_of_mem _ (List.mem_cons_of_mem _ (List.mem_cons_self ..)))))
  have m6 : (e.tp, tup [.bytes e.c e.tc, tk]) ∈ e.led w x tk := List.mem_cons_of_mem _ (List.mem_cons_of_mem _ (List.mem_cons_of_mem _ (List.mem_cons_of_mem _ (List.mem_cons_of_mem _ (List.mem_cons_of_mem _ (List.mem_cons_self ..))))))
  have m7 : (e.tq, tup [.bytes e.c' e.tc', e.tk']) ∈ e.led w x tk := List.mem_cons_of_mem _ (List.mem_cons_of_mem _ (List.mem_cons_of_mem _ (List.mem_cons_of_mem _ (List.mem_cons_of_mem _ (List.mem_cons_of_mem _ (List.mem_cons_of_mem _ (List.mem_cons_self ..)))))))
  have hsub : ∀ q ∈ [(x, instObj 145 e.dx), (e.dx, dictOf (remEs w ⟨e.t0, e.t1, e.t2, e.t3, e.t4, e.t5, e.t6, e.t7, e.lim, e.cu, e.rp, .ref e.td, .ref e.tr, e.em⟩ (.ref e.kd) (.ref e.ul)) 8), (e.kd, e.ko), (e.td, e.to), (e.tp, tup [.bytes e.c e.tc, tk]), (e.tq, tup [.bytes e.c' e.tc', e.tk'])], q ∈ e.led w x tk := by
    intro q hq
    simp only [List.mem_cons, List.not_mem_nil, or_false] at hq
    rcases hq with rfl | rfl | rfl | rfl | rfl | rfl
    · exact m0
    · exact List.mem_cons_of_mem _ (List.mem_cons_self ..)
    · exact m2
    · exact m3
    · exact m6
    · exact m7
  have clx : ∀ {vs : List Value} {us : Array Value} {k : Nat}, W.listOf us k ≠ tup vs := by
    intro vs us k h
    have h1 := congrArg Obj.cls h
    injection h1 with h2
    exact absurd h2 (by decide)
  refine setTokG_does (x := x) (dx := e.dx) (rf := ⟨e.t0, e.t1, e.t2, e.t3, e.t4, e.t5, e.t6, e.t7, e.lim, e.cu, e.rp, .ref e.td, .ref e.tr, e.em⟩) (us := .ref e.ul) (c := e.c) (c' := e.c') (tc := e.tc) (tc' := e.tc') (tk := tk) (tk' := e.tk') hk1 km ht1 tm (by omega) (by omega) (by omega) (by omega) (by omega) (by omega) (news_ne N m2 m6 (dict_ne_tup hk1)) (news_ne N m2 m7 (dict_ne_tup hk1)) (news_ne N m3 m6 (dict_ne_tup ht1)) (news_ne N m3 m7 (dict_ne_tup ht1))
    p loose mean mg mb dp un gd cn cs a ccd cl outer A₀ base h₀ L m s Q E B F X (fun q hq => N q (hsub q hq)) T hk hdp hun fun r post h' tk' hR hf hK F' N' => ?_
  obtain ⟨hr, tp', tq', ko', to', hk2, ht2, rfl⟩ := hR
  have u4 := N _ m4
  have u5 := N _ m5
  have k4 : h'.get? e.ul = some (W.listOf #[.int 0 e.tu] 0) := hK _ _ u4.1 (by
    simp only [List.map_cons, List.map_nil, List.mem_cons, List.not_mem_nil, or_false, not_or]
    exact ⟨neN (by omega), neN (by omega), neN (by omega), neN (by omega), news_ne N m4 m6 clx, news_ne N m4 m7 clx⟩)
  have k5 : h'.get? e.tr = some (W.listOf #[] 0) := hK _ _ u5.1 (by
    simp only [List.map_cons, List.map_nil, List.mem_cons, List.not_mem_nil, or_false, not_or]
    exact ⟨neN (by omega), neN (by omega), neN (by omega), neN (by omega), news_ne N m5 m6 clx, news_ne N m5 m7 clx⟩)
  have N2 : News h₀ L h' (EP.led w x (.bytes TA tt) { e with ko := ko', to := to', tp := tp', tq := tq', tk' := .bytes TA tt }) := by
    intro q hq
    simp only [EP.led, List.mem_cons, List.not_mem_nil, or_false] at hq
    rcases hq with rfl | rfl | rfl | rfl | rfl | rfl | rfl | rfl
    · exact N' _ (List.mem_cons_self ..)
    · exact N' _ (List.mem_cons_of_mem _ (List.mem_cons_self ..))
    · exact N' _ (List.mem_cons_of_mem _ (List.mem_cons_of_mem _ (List.mem_cons_self ..)))
    · exact N' _ (List.mem_cons_of_mem _ (List.mem_cons_of_mem _ (List.mem_cons_of_mem _ (List.mem_cons_self ..))))
    · exact ⟨k4, u4.2⟩
    · exact ⟨k5, u5.2⟩
    · exact N' _ (List.mem_cons_of_mem _ (List.mem_cons_of_mem _ (List.mem_cons_of_mem _ (List.mem_cons_of_mem _ (List.mem_cons_self ..)))))
    · exact N' _ (List.mem_cons_of_mem _ (List.mem_cons_of_mem _ (List.mem_cons_of_mem _ (List.mem_cons_of_mem _ (List.mem_cons_of_mem _ (List.mem_cons_self ..))))))
  have hpre : ∀ y, y ∈ ([(x, instObj 145 e.dx), (e.dx, dictOf (remEs w ⟨e.t0, e.t1, e.t2, e.t3, e.t4, e.t5, e.t6, e.t7, e.lim, e.cu, e.rp, .ref e.td, .ref e.tr, e.em⟩ (.ref e.kd) (.ref e.ul)) 8), (e.kd, e.ko), (e.td, e.to), (e.tp, tup [.bytes e.c e.tc, tk]), (e.tq, tup [.bytes e.c' e.tc', e.tk'])] : List (Addr × Obj)).map (·.1) → y ∈ (e.led w x tk).map (·.1) := by
    intro y hy
    obtain ⟨z, hz, rfl⟩ := List.mem_map.mp hy
    exact List.mem_map_of_mem (hsub z hz)
  refine hret r (EP.led w x (.bytes TA tt) { e with ko := ko', to := to', tp := tp', tq := tq', tk' := .bytes TA tt }) h' tk' ⟨hr, { e with ko := ko', to := to', tp := tp', tq := tq', tk' := .bytes TA tt }, ⟨hk2, ht2, km, tm, o1, o2, o3, o4, o5⟩, rfl⟩ (fun q hq => ?_) (hK.weaken hpre) F' N2
  simp only [EP.led, List.mem_cons, List.not_mem_nil, or_false] at hq
  rcases hq with rfl | rfl | rfl | rfl | rfl | rfl | rfl | rfl
  · exact .inl (List.mem_map_of_mem m0)
  · exact (hf _ (List.mem_cons_of_mem _ (List.mem_cons_self ..))).imp (hpre _) id
  · exact .inl (List.mem_map.mpr ⟨_, m2, rfl⟩)
  · exact .inl (List.mem_map.mpr ⟨_, m3, rfl⟩)
  · exact .inl (List.mem_map_of_mem m4)
  · exact .inl (List.mem_map_of_mem m5)
  · exact (hf _ (List.mem_cons_of_mem _ (List.mem_cons_of_mem _ (List.mem_cons_of_mem _ (List.mem_cons_of_mem _ (List.mem_cons_self ..)))))).imp (hpre _) id
  · exact (hf _ (List.mem_cons_of_mem _ (List.mem_cons_of_mem _ (List.mem_cons_of_mem _ (List.mem_cons_of_mem _ (List.mem_cons_of_mem _ (List.mem_cons_self ..))))))).imp (hpre _) id
/-- an end looks whether a datagram is a reset -/
theorem isReset_end {w : World} {x : Addr} {tk : Value} {E₁ : List (Addr × Obj)} {b : Array UInt8} {td : Tok} {v : Bool} (he : IsEnd w x tk E₁) (hb2 : b.size ≤ 1000) (hs : b.size < 21 → v = false) (hv : 21 ≤ b.size → Cmp w tk (KBy.picked b (some ((b.size : Int) - 16)) none) v) :
    Does w 10 142 [.ref x, .bytes b td] E₁ (fun r post => r = .bool v ∧ ∀ q ∈ E₁, q ∈ post) := by
  obtain ⟨e, ⟨hk1, ht1, km, tm, o1, o2, o3, o4, o5⟩, rfl⟩ := he
  intro p loose mean mg mb dp un gd cn cs a ccd cl outer A₀ base h₀ L m s Q E B F X N T hk hdp hun hret
  by_cases hb : 21 ≤ b.size
  · refine (Does.widen (isResetA_does (rf := ⟨e.t0, e.t1, e.t2, e.t3, e.t4, e.t5, e.t6, e.t7, e.lim, e.cu, e.rp, .ref e.td, .ref e.tr, e.em⟩) (ul := e.ul) (tu := e.tu) (n := 0) (tp := e.tp) (tc := e.tc) (c := e.c) (td := td) (dx := e.dx) (x := x) hk1 km hb hb2 (hv hb)) (fun _ _ h => h.2) (E' := e.led w x tk) (fun q hq => ?_))
      p loose mean mg mb dp un gd cn cs a ccd cl outer A₀ base h₀ L m s Q E B F X N T hk hdp hun fun r post h' tk' hR hK F' N' => hret r post h' tk' ⟨hR.1.elim fun _ h => h.1, fun q hq => hR.2 ▸ hq⟩ hK F' N'
    simp only [sh, List.mem_cons, List.not_mem_nil, or_false] at hq
    rcases hq with rfl | rfl | rfl | rfl | rfl
    · exact List.mem_cons_self ..
    · exact List.mem_cons_of_mem _ (List.mem_cons_self ..)
    · exact List.mem_cons_of_mem _ (List.mem_cons_of_mem _ (List.mem_cons_self ..))
    · exact List.mem_cons_of_mem _ (List.mem_cons_of_mem _ (List.mem_cons_of_mem _ (List.mem_cons_of_mem _ (List.mem_cons_self ..))))
    · exact List.mem_cons_of_mem _ (List.mem_cons_of_mem _ (List.mem_cons_of_mem _ (List.mem_cons_of_mem _ (List.mem_cons_of_mem _ (List.mem_cons_of_mem _ (List.mem_cons_self ..))))))
  · have hv0 := hs (by omega)
    subst hv0
    refine (Does.widen (isResetShort_does (x := x) (td := td) (b := b) (by omega)) (fun _ _ _ q hq => absurd hq List.not_mem_nil) (E' := e.led w x tk) (fun q hq => absurd hq List.not_mem_nil))
      p loose mean mg mb dp un gd cn cs a ccd cl outer A₀ base h₀ L m s Q E B F X N T hk hdp hun fun r post h' tk' hR hK F' N' => hret r post h' tk' ⟨hR.1.elim fun _ h => h, fun q hq => hR.2 ▸ hq⟩ hK F' N'
end
section
local macro_rules | `(tactic| lcg_off) => `(tactic| ((simp only [LCg.Off3, and_true]); with_reducible assumption))
local macro_rules | `(tactic| walk_at "CompSrcT") => `(tactic| (k_here; k_dflt (refine LCt.CompSrcT.ledger (by rfl) (by k_asm) (by k_asm) (by k_mem) (by first | size_fits | exact Nat.le_of_ble_eq_true rfl) ?_; intro g'; (simp only [List.size_toArray, List.length_cons, List.length_nil, Nat.zero_add, Nat.reduceAdd]))))
set_option maxHeartbeats 80000000 in
theorem heard_does {w : World} {o q : Hs} {TA UA found : Array UInt8} {t : Tok} (ho : o.Ok w) (hq : q.Ok w) (hb : 21 ≤ found.size) (hb2 : found.size ≤ 42)
    (hv1 : TA = KBy.picked found (some ((found.size : Int) - 16)) none) (hv2 : TA = KBy.picked (KBy.picked found (some ((found.size : Int) - 21)) none) (some (((KBy.picked found (some ((found.size : Int) - 21)) none).size : Int) - 16)) none)
    (hU : UA ≠ KBy.picked found (some ((found.size : Int) - 16)) none) (hZ : zeros ≠ KBy.picked found (some ((found.size : Int) - 16)) none)
    (z1 : (KBy.picked found (some ((found.size : Int) - 21)) none).size = 21) (z2 : (KBy.picked (KBy.picked found (some ((found.size : Int) - 21)) none) (some 1) none).size = 20) :
    Does w 20 180 [.bytes found t, .ref o.v, .ref q.v] (o.led w TA ++ q.led w UA) (fun r post => r = .bool true ∧ ∀ z ∈ o.led w TA ++ q.led w UA, z ∈ post) := by
  intro p loose mean mg mb dp un gd cn cs a ccd cl outer A₀ base h₀ L m s Q E B F X N T hk hdp hun hret
  have kM := kstMark
  obtain ⟨ho1, ho2, ho3, ho4, ho5, ho6, ho7, ho8⟩ := ho
  obtain ⟨hq1, hq2, hq3, hq4, hq5, hq6, hq7, hq8⟩ := hq
  have hsub : ∀ z ∈ [(o.v, tup [.ref o.a, .ref o.b]), (o.a, W.listOf #[.ref o.f.x, .ref o.l.x] o.na), (o.b, W.listOf #[.ref o.n.x, .ref o.z.x] o.nb), (q.v, tup [.ref q.a, .ref q.b]), (q.a, W.listOf #[.ref q.f.x, .ref q.l.x] q.na), (q.b, W.listOf #[.ref q.n.x, .ref q.z.x] q.nb)], z ∈ o.led w TA ++ q.led w UA := by
    exact List.forall_mem_cons.mpr ⟨List.mem_append_left _ (List.mem_cons_self ..), List.forall_mem_cons.mpr ⟨List.mem_append_left _ (List.mem_cons_of_mem _ (List.mem_cons_self ..)), List.forall_mem_cons.mpr ⟨List.mem_append_left _ (List.mem_cons_of_mem _ (List.mem_cons_of_mem _ (List.mem_cons_self ..))), List.forall_mem_cons.mpr ⟨List.mem_append_right _ (List.mem_cons_self ..), List.forall_mem_cons.mpr ⟨List.mem_append_right _ (List.mem_cons_of_mem _ (List.mem_cons_self ..)), List.forall_mem_cons.mpr ⟨List.mem_append_right _ (List.mem_cons_of_mem _ (List.mem_cons_of_mem _ (List.mem_cons_self ..))), List.forall_mem_nil _⟩⟩⟩⟩⟩⟩
  have hpr : ∀ z ∈ [(o.v, tup [.ref o.a, .ref o.b]), (o.a, W.listOf #[.ref o.f.x, .ref o.l.x] o.na), (o.b, W.listOf #[.ref o.n.x, .ref o.z.x] o.nb), (q.v, tup [.ref q.a, .ref q.b]), (q.a, W.listOf #[.ref q.f.x, .ref q.l.x] q.na), (q.b, W.listOf #[.ref q.n.x, .ref q.z.x] q.nb)], refs z.2 = true := by
    exact List.forall_mem_cons.mpr ⟨rfl, List.forall_mem_cons.mpr ⟨rfl, List.forall_mem_cons.mpr ⟨rfl, List.forall_mem_cons.mpr ⟨rfl, List.forall_mem_cons.mpr ⟨rfl, List.forall_mem_cons.mpr ⟨rfl, List.forall_mem_nil _⟩⟩⟩⟩⟩⟩
  have fz : ∀ {A : Around} {env : Env} {g : Heap} (X : List (Addr × Obj)), A.frames = some (env :: outer) → env.frame = some L → env.scope.kind = .function → (∀ z ∈ X, z ∈ o.led w TA ++ q.led w UA) → (∀ z ∈ X, refs z.2 = false) →
      g = hideAll s.heap (([(o.v, tup [.ref o.a, .ref o.b]), (o.a, W.listOf #[.ref o.f.x, .ref o.l.x] o.na), (o.b, W.listOf #[.ref o.n.x, .ref o.z.x] o.nb), (q.v, tup [.ref q.a, .ref q.b]), (q.a, W.listOf #[.ref q.f.x, .ref q.l.x] q.na), (q.b, W.listOf #[.ref q.n.x, .ref q.z.x] q.nb)] : List (Addr × Obj)).map (·.1)) → FrzAt h₀ g A base (env :: outer) X :=
    fun X h1 h2 h3 hX c hg => frz_of B F N h1 h2 h3 hsub hX (refs_apart N hsub hX c hpr) hg
  have NP := cb_drop N hsub
  have hND := Box.mk N
  have hsubB := Box.mk hsub
  have hprB := Box.mk hpr
  clear N hsub hpr
  refine wpAny_call ?_
  (first
  | (k_dflt (refine' code_keep ?k1 ?k2 ?k3 ?k4 ?k5 ?kA ?kF ?kK ?k6 ?k7 ?k8 ?k9 ?kB ?_ ?c2 ?c3 ?c4 ?c5; (case kA => exact rfl); (case kF => exact rfl); (case kK => first | exact rfl | assumption); (case k1 => k_asm); (case k2 => k_asm); (case k3 => k_asm); (case k4 => k_asm); (case k5 => k_asm); (case k6 => k_is); (case k7 => k_is); (case k8 => first | k_room | ktr_room); (case k9 => first | exact BindsTo.of_eq rfl | exact binds_K (by k_in) rfl (by k_is) rfl rfl rfl | fail "k_enter: no rule for these arguments"); (case c5 => decide); (case kB => exact locs rfl); (case c2 => exact rfl); (case c3 => exact rfl); (case c4 => exact rfl); k_whole; intro g' L' h' hG' FG' F' N' B' X' T'; (try dsimp only); (try k_lift B'); (try k_fold)))
  | (k_dflt (refine' code_keepC ?k1 ?k2 ?k3 ?k4 ?k5 ?kA ?kF ?kK ?k6 ?k7 ?k8 ?k9 ?kB ?kD ?_ ?c2 ?c3 ?c4; (case kA => exact rfl); (case kF => exact rfl); (case kK => first | exact rfl | assumption); (case k1 => k_asm); (case k2 => k_asm); (case k3 => k_asm); (case k4 => k_asm); (case k5 => k_asm); (case k6 => k_is); (case k7 => k_is); (case k8 => first | k_room | ktr_room); (case k9 => first | exact BindsTo.of_eq rfl | exact binds_K (by k_in) rfl (by k_is) rfl rfl rfl | fail "k_enter: no rule for these arguments"); (case kB => exact rfl); (case kD => decide +kernel); (case c2 => exact rfl); (case c3 => exact rfl); (case c4 => exact rfl); k_whole; intro g' L' h' tk' cells' hG' FG' F' N' Y' B' X' T' l1; (try k_lt l1); k_cells Y'; (try simp only [List.cons_append, List.nil_append] at N'); (try dsimp only); (try k_lift B'); (try k_fold))))
  have hK' := kept_of hG'
  have Z0 := fz (A := ktrTop dp un gd cn cs L a ccd cl outer) (env := envX cn cs L a ccd cl) (o.f.led w [.int 0 o.f.tu] (.bytes TA o.f.tt)) rfl rfl hk (fun z hz => List.mem_append_left _ (List.mem_cons_of_mem _ (List.mem_cons_of_mem _ (List.mem_cons_of_mem _ (List.mem_append_left _ hz))))) (refs_sh (refs_dict ho1) rfl) hG'
  have G0 : g'.get? o.f.x = some (instObj 145 o.f.dx) := FrzAt.get Z0 (List.mem_cons_self ..)
  have H0 : g'.get? o.f.dx = some (dictOf (remEs w o.f.rf (.ref o.f.kd) (.ref o.f.ul)) 8) := FrzAt.get Z0 (List.mem_cons_of_mem _ (List.mem_cons_self ..))
  have Z1 := fz (A := ktrTop dp un gd cn cs L a ccd cl outer) (env := envX cn cs L a ccd cl) (o.l.led w [.int 0 o.l.tu, .int 1 o.l.tv] (.bytes TA o.l.tt)) rfl rfl hk (fun z hz => List.mem_append_left _ (List.mem_cons_of_mem _ (List.mem_cons_of_mem _ (List.mem_cons_of_mem _ (List.mem_append_right _ (List.mem_append_left _ hz)))))) (refs_sh (refs_dict ho2) rfl) hG'
  have G1 : g'.get? o.l.x = some (instObj 145 o.l.dx) := FrzAt.get Z1 (List.mem_cons_self ..)
  have H1 : g'.get? o.l.dx = some (dictOf (remEs w o.l.rf (.ref o.l.kd) (.ref o.l.ul)) 8) := FrzAt.get Z1 (List.mem_cons_of_mem _ (List.mem_cons_self ..))
  have Z2 := fz (A := ktrTop dp un gd cn cs L a ccd cl outer) (env := envX cn cs L a ccd cl) (o.n.led w [.int 0 o.n.tu] .none) rfl rfl hk (fun z hz => List.mem_append_left _ (List.mem_cons_of_mem _ (List.mem_cons_of_mem _ (List.mem_cons_of_mem _ (List.mem_append_right _ (List.mem_append_right _ (List.mem_append_left _ hz))))))) (refs_sh (refs_dict ho3) rfl) hG'
  have G2 : g'.get? o.n.x = some (instObj 145 o.n.dx) := FrzAt.get Z2 (List.mem_cons_self ..)
  have H2 : g'.get? o.n.dx = some (dictOf (remEs w o.n.rf (.ref o.n.kd) (.ref o.n.ul)) 8) := FrzAt.get Z2 (List.mem_cons_of_mem _ (List.mem_cons_self ..))
  have Z3 := fz (A := ktrTop dp un gd cn cs L a ccd cl outer) (env := envX cn cs L a ccd cl) (o.z.led w [.int 0 o.z.tu, .int 1 o.z.tv] (.bytes zeros o.z.tt)) rfl rfl hk (fun z hz => List.mem_append_left _ (List.mem_cons_of_mem _ (List.mem_cons_of_mem _ (List.mem_cons_of_mem _ (List.mem_append_right _ (List.mem_append_right _ (List.mem_append_right _ hz))))))) (refs_sh (refs_dict ho4) rfl) hG'
  have G3 : g'.get? o.z.x = some (instObj 145 o.z.dx) := FrzAt.get Z3 (List.mem_cons_self ..)
  have H3 : g'.get? o.z.dx = some (dictOf (remEs w o.z.rf (.ref o.z.kd) (.ref o.z.ul)) 8) := FrzAt.get Z3 (List.mem_cons_of_mem _ (List.mem_cons_self ..))
  have Z4 := fz (A := ktrTop dp un gd cn cs L a ccd cl outer) (env := envX cn cs L a ccd cl) (q.f.led w [.int 0 q.f.tu] (.bytes UA q.f.tt)) rfl rfl hk (fun z hz => List.mem_append_right _ (List.mem_cons_of_mem _ (List.mem_cons_of_mem _ (List.mem_cons_of_mem _ (List.mem_append_left _ hz))))) (refs_sh (refs_dict hq1) rfl) hG'
  have G4 : g'.get? q.f.x = some (instObj 145 q.f.dx) := FrzAt.get Z4 (List.mem_cons_self ..)
  have H4 : g'.get? q.f.dx = some (dictOf (remEs w q.f.rf (.ref q.f.kd) (.ref q.f.ul)) 8) := FrzAt.get Z4 (List.mem_cons_of_mem _ (List.mem_cons_self ..))
  have Z5 := fz (A := ktrTop dp un gd cn cs L a ccd cl outer) (env := envX cn cs L a ccd cl) (q.l.led w [.int 0 q.l.tu, .int 1 q.l.tv] (.bytes UA q.l.tt)) rfl rfl hk (fun z hz => List.mem_append_right _ (List.mem_cons_of_mem _ (List.mem_cons_of_mem _ (List.mem_cons_of_mem _ (List.mem_append_right _ (List.mem_append_left _ hz)))))) (refs_sh (refs_dict hq2) rfl) hG'
  have G5 : g'.get? q.l.x = some (instObj 145 q.l.dx) := FrzAt.get Z5 (List.mem_cons_self ..)
  have H5 : g'.get? q.l.dx = some (dictOf (remEs w q.l.rf (.ref q.l.kd) (.ref q.l.ul)) 8) := FrzAt.get Z5 (List.mem_cons_of_mem _ (List.mem_cons_self ..))
  have Z6 := fz (A := ktrTop dp un gd cn cs L a ccd cl outer) (env := envX cn cs L a ccd cl) (q.n.led w [.int 0 q.n.tu] .none) rfl rfl hk (fun z hz => List.mem_append_right _ (List.mem_cons_of_mem _ (List.mem_cons_of_mem _ (List.mem_cons_of_mem _ (List.mem_append_right _ (List.mem_append_right _ (List.mem_append_left _ hz))))))) (refs_sh (refs_dict hq3) rfl) hG'
  have G6 : g'.get? q.n.x = some (instObj 145 q.n.dx) := FrzAt.get Z6 (List.mem_cons_self ..)
  have H6 : g'.get? q.n.dx = some (dictOf (remEs w q.n.rf (.ref q.n.kd) (.ref q.n.ul)) 8) := FrzAt.get Z6 (List.mem_cons_of_mem _ (List.mem_cons_self ..))
  have Z7 := fz (A := ktrTop dp un gd cn cs L a ccd cl outer) (env := envX cn cs L a ccd cl) (q.z.led w [.int 0 q.z.tu, .int 1 q.z.tv] (.bytes zeros q.z.tt)) rfl rfl hk (fun z hz => List.mem_append_right _ (List.mem_cons_of_mem _ (List.mem_cons_of_mem _ (List.mem_cons_of_mem _ (List.mem_append_right _ (List.mem_append_right _ (List.mem_append_right _ hz))))))) (refs_sh (refs_dict hq4) rfl) hG'
  have G7 : g'.get? q.z.x = some (instObj 145 q.z.dx) := FrzAt.get Z7 (List.mem_cons_self ..)
  have H7 : g'.get? q.z.dx = some (dictOf (remEs w q.z.rf (.ref q.z.kd) (.ref q.z.ul)) 8) := FrzAt.get Z7 (List.mem_cons_of_mem _ (List.mem_cons_self ..))
  clear fz hG'
  dsimp only [Rm.led] at *
  have z3 : (KBy.picked (KBy.picked found (some ((found.size : Int) - 21)) none) (some 1) none).size < 21 := by omega
  have z4 : 21 ≤ (KBy.picked found (some ((found.size : Int) - 21)) none).size := by omega
  have z5 : (KBy.picked found (some ((found.size : Int) - 21)) none).size ≤ 1000 := by omega
  have z6 : found.size ≤ 1000 := by omega
  repeat' (first | (k_unfold; (try dsimp only)) | (k_end; wrow_close) | (with_reducible first | ((with_reducible show wpAny _ _ (call (Value.ref _) _) _ _ _); (first | ((with_reducible show wpAny _ _ (call (Value.ref 142) _) _ _ _); (k_here; k_dflt (refine' Does.read (isResetShort_does ?hb) ?kr ?k1 ?k2 ?k3 ?k4 ?k5 ?kK ?kd ?ku ?ks ?_; (case kr => first | (intro _ _ hR; exact hR.2) | (intro _ _ _ q hq; cases hq)); (case k1 => k_asm); (case k2 => k_asm); (case k3 => k_asm); (case k4 => k_asm); (case k5 => k_asm); (case kK => first | exact rfl | assumption); (case kd => first | decide | ktr_room); (case ku => ktr_units); (case ks => first | (dsimp only [sh]; (refine' List.forall_mem_cons.mpr ⟨?ma, List.forall_mem_cons.mpr ⟨?mb, List.forall_mem_cons.mpr ⟨?mc, List.forall_mem_cons.mpr ⟨?md, List.forall_mem_cons.mpr ⟨?me, List.forall_mem_nil _⟩⟩⟩⟩⟩); (case ma => k_mem); (case mb => k_mem); (case mc => k_mem); (case md => k_mem); (case me => k_mem)) | (intro q hq; cases hq)))); (case hb => with_reducible assumption); (intro r9 post9 h9 tk9 hR9 F9 N9); (subst hR9); (try dsimp only); (try k_fold)) | ((with_reducible show wpAny _ _ (call (Value.ref 142) _) _ _ _); (k_here; k_dflt (refine' Does.ground (isResetA_does ?hkd ?hlo ?hb ?hb2 ?hv) ?kr ?kZ ?kF ?kX ?kN ?kT ?kK ?kd ?ku ?_; (case kr => (intro _ _ hR; exact hR.2)); (case kZ => with_reducible assumption); (case kF => k_asm); (case kX => k_asm); (case kN => k_asm); (case kT => k_asm); (case kK => first | exact rfl | assumption); (case kd => first | decide | ktr_room); (case ku => ktr_units))); (case hkd => with_reducible assumption); (case hlo => with_reducible assumption); (case hb => with_reducible assumption); (case hb2 => with_reducible assumption); (case hv => first | exact Cmp.none | exact Cmp.same (by with_reducible assumption) | exact Cmp.other (by with_reducible assumption)); (intro r9 post9 h9 tk9 hR9 F9 N9); (have hR8 := hR9.1); (clear hR9); (subst hR8); (try dsimp only); (try k_fold)) | ((with_reducible show wpAny _ _ (call (Value.ref 142) _) _ _ _); (k_here; k_dflt (refine' Does.ground (isResetP_does ?hkd ?hlo ?hb ?hb2 ?hv) ?kr ?kZ ?kF ?kX ?kN ?kT ?kK ?kd ?ku ?_; (case kr => (intro _ _ hR; exact hR.2)); (case kZ => with_reducible assumption); (case kF => k_asm); (case kX => k_asm); (case kN => k_asm); (case kT => k_asm); (case kK => first | exact rfl | assumption); (case kd => first | decide | ktr_room); (case ku => ktr_units))); (case hkd => with_reducible assumption); (case hlo => with_reducible assumption); (case hb => with_reducible assumption); (case hb2 => with_reducible assumption); (case hv => first | exact Cmp.none | exact Cmp.same (by with_reducible assumption) | exact Cmp.other (by with_reducible assumption)); (intro r9 post9 h9 tk9 hR9 F9 N9); (have hR8 := hR9.1); (clear hR9); (subst hR8); (try dsimp only); (try k_fold)) | ((with_reducible show wpAny _ _ (call (Value.ref 142) _) _ _ _); (k_here; k_dflt (refine' Does.ground (isResetB_does ?hkd ?hlo ?hb ?hb2 ?hv) ?kr ?kZ ?kF ?kX ?kN ?kT ?kK ?kd ?ku ?_; (case kr => (intro _ _ hR; exact hR.2)); (case kZ => with_reducible assumption); (case kF => k_asm); (case kX => k_asm); (case kN => k_asm); (case kT => k_asm); (case kK => first | exact rfl | assumption); (case kd => first | decide | ktr_room); (case ku => ktr_units))); (case hkd => with_reducible assumption); (case hlo => with_reducible assumption); (case hb => with_reducible assumption); (case hb2 => with_reducible assumption); (case hv => first | exact Cmp.none | exact Cmp.same (by with_reducible assumption) | exact Cmp.other (by with_reducible assumption)); (intro r9 post9 h9 tk9 hR9 F9 N9); (have hR8 := hR9.1); (clear hR9); (subst hR8); (try dsimp only); (try k_fold)))) | ((with_reducible show wpAny _ _ (getMethod (Value.ref _) _ _) _ _ _); (k_here; k_dflt (refine' method_inst ?k1 ?k2 ?k3 ?k4 ?k5 ?k6 ?k7 ?_; (case k1 => k_asm); (case k2 => k_asm); (case k3 => exact inst_get (by assumption) (by with_reducible assumption) (by with_reducible assumption)); (case k4 => k_is); (case k5 => k_is); (case k6 => k_is); (case k7 => k_get); k_whole))) | ((with_reducible show wpAny _ _ (exec (Stmt.If _ _ _ _) _) _ _ _); (k_here; with_reducible refine wpAny_If ?_)) | (k_here; (with_reducible show wpAny _ _ (binaryOp _ (Value.bytes _ _) (Value.bytes _ _)) _ _ _); (refine add_my (by first | omega | ((try simp only [byteArr_size, Array.size_append, List.length_cons, List.length_nil]); first | omega | decide | (refine Nat.le_trans (Nat.add_le_add (Nat.add_le_add (Nat.le_refl _) (picked_size_le (by assumption))) (by assumption)) (by omega)) | (refine Nat.le_trans (Nat.add_le_add (Nat.le_refl _) (picked_size_le (by assumption))) (by omega)))) ?_); intro _ _) | (k_here; (with_reducible show wpAny _ _ (subscriptTail _ _ (Value.bytes _ _) (Value.int _ _)) _ _ _); (refine item_my (by first | omega | ((try simp only [byteArr_size, Array.size_append, List.length_cons, List.length_nil]); first | omega | decide | (refine Nat.le_trans (Nat.add_le_add (Nat.add_le_add (Nat.le_refl _) (picked_size_le (by assumption))) (by assumption)) (by omega)) | (refine Nat.le_trans (Nat.add_le_add (Nat.le_refl _) (picked_size_le (by assumption))) (by omega)))) (by first | omega | ((try simp only [byteArr_size, Array.size_append, List.length_cons, List.length_nil]); first | omega | decide | (refine Nat.le_trans (Nat.add_le_add (Nat.add_le_add (Nat.le_refl _) (picked_size_le (by assumption))) (by assumption)) (by omega)) | (refine Nat.le_trans (Nat.add_le_add (Nat.le_refl _) (picked_size_le (by assumption))) (by omega)))) (by first | omega | ((try simp only [byteArr_size, Array.size_append, List.length_cons, List.length_nil]); first | omega | decide | (refine Nat.le_trans (Nat.add_le_add (Nat.add_le_add (Nat.le_refl _) (picked_size_le (by assumption))) (by assumption)) (by omega)) | (refine Nat.le_trans (Nat.add_le_add (Nat.le_refl _) (picked_size_le (by assumption))) (by omega)))) ?_); intro _ _ _ _) | (k_here; (with_reducible show wpAny _ _ (subscriptTail _ (PySem.Expr.Slice _ _ none _) (Value.bytes _ _) (Value.ref _)) _ _ _); (with_reducible rename Fr _ _ _ _ => F'); (with_reducible rename News _ _ _ _ => N'); (refine slice_my (s := ⟨_, _, _, _, _⟩) F' N' (by constructor) (by constructor) (by first | omega | ((try simp only [byteArr_size, Array.size_append, List.length_cons, List.length_nil]); first | omega | decide | (refine Nat.le_trans (Nat.add_le_add (Nat.add_le_add (Nat.le_refl _) (picked_size_le (by assumption))) (by assumption)) (by omega)) | (refine Nat.le_trans (Nat.add_le_add (Nat.le_refl _) (picked_size_le (by assumption))) (by omega)))) ?_); intro _ _ _ _ _) | ((with_reducible show wpAny _ _ (execs [] _) _ _ _); (k_here; (with_reducible refine gen_toks ?_); intro _; (with_reducible refine wpAny_execs_nil ?_))) | ((with_reducible show wpAny _ _ (execs (_ :: _) _) _ _ _); (k_here; (with_reducible refine gen_toks ?_); intro _; (with_reducible refine wpAny_execs_cons ?_); (try k_fold)))) | walk1 | (dsimp only) | (leave1; walk_say "STEP leave1"; try dsimp only) | fail "no step")
  have K2 := Kept.trans hK' (Fr.keep (L := L') (by assumption))
  refine hret _ (o.led w TA ++ q.led w UA) _ _ ⟨rfl, fun _ h => h⟩ (fun b o e hb => K2 b o e fun hm => hb ?_) (by k_asm) (news_back hND.out hsubB.out K2 (cb_drop (by k_asm) ?_))
  · obtain ⟨z, hz, e⟩ := List.mem_map.mp hm
    exact e ▸ List.mem_map_of_mem (hsubB.out z hz)
  · (refine' List.forall_mem_cons.mpr ⟨?ma, List.forall_mem_cons.mpr ⟨?mb, List.forall_mem_cons.mpr ⟨?mc, List.forall_mem_cons.mpr ⟨?md, List.forall_mem_cons.mpr ⟨?me, List.forall_mem_cons.mpr ⟨?mf, List.forall_mem_nil _⟩⟩⟩⟩⟩⟩)
    case ma => k_mem
    case mb => k_mem
    case mc => k_mem
    case md => k_mem
    case me => k_mem
    case mf => k_mem
end
section
set_option maxHeartbeats 8000000 in
theorem take_does {w : World} {box it : Addr} {pos many : Int} {tp tm : Tok} {n k : Nat} {vs : List Value} {ns : List Int} (hi : IntsAre vs ns) (hne : @Ne Nat box it) (hl : ns.length ≤ 1000) (h0 : 0 ≤ pos) (h1 : pos ≤ 1000) (hm : 0 < many) (hm2 : many ≤ 1000) :
    Does w 10 156 [.ref box, .int many tm] [(box, W.listOf #[.ref it, .int pos tp] n), (it, W.listOf vs.toArray k)]
      (fun r post => ∃ (v : Int) (t t' : Tok) (n' : Nat), 0 ≤ v ∧ v < many ∧ r = .int v t ∧ post = [(box, W.listOf #[.ref it, .int (pos + 1) t'] n'), (it, W.listOf vs.toArray k)]) := by
  intro p loose mean mg mb dp un gd cn cs a ccd cl outer A₀ base h₀ L m s Q E B F X N T hk hdp hun hret
  have kM := kstMark
  have hlen := hi.length
  refine wpAny_call ?_
  (first
  | (k_dflt (refine' code_keep ?k1 ?k2 ?k3 ?k4 ?k5 ?kA ?kF ?kK ?k6 ?k7 ?k8 ?k9 ?kB ?_ ?c2 ?c3 ?c4 ?c5; (case kA => exact rfl); (case kF => exact rfl); (case kK => first | exact rfl | assumption); (case k1 => k_asm); (case k2 => k_asm); (case k3 => k_asm); (case k4 => k_asm); (case k5 => k_asm); (case k6 => k_is); (case k7 => k_is); (case k8 => first | k_room | ktr_room); (case k9 => first | exact BindsTo.of_eq rfl | exact binds_K (by k_in) rfl (by k_is) rfl rfl rfl | fail "k_enter: no rule for these arguments"); (case c5 => decide); (case kB => exact locs rfl); (case c2 => exact rfl); (case c3 => exact rfl); (case c4 => exact rfl); k_whole; intro g' L' h' hG' FG' F' N' B' X' T'; (try dsimp only); (try k_lift B'); (try k_fold)))
  | (k_dflt (refine' code_keepC ?k1 ?k2 ?k3 ?k4 ?k5 ?kA ?kF ?kK ?k6 ?k7 ?k8 ?k9 ?kB ?kD ?_ ?c2 ?c3 ?c4; (case kA => exact rfl); (case kF => exact rfl); (case kK => first | exact rfl | assumption); (case k1 => k_asm); (case k2 => k_asm); (case k3 => k_asm); (case k4 => k_asm); (case k5 => k_asm); (case k6 => k_is); (case k7 => k_is); (case k8 => first | k_room | ktr_room); (case k9 => first | exact BindsTo.of_eq rfl | exact binds_K (by k_in) rfl (by k_is) rfl rfl rfl | fail "k_enter: no rule for these arguments"); (case kB => exact rfl); (case kD => decide +kernel); (case c2 => exact rfl); (case c3 => exact rfl); (case c4 => exact rfl); k_whole; intro g' L' h' tk' cells' hG' FG' F' N' Y' B' X' T' l1; (try k_lt l1); k_cells Y'; (try simp only [List.cons_append, List.nil_append] at N'); (try dsimp only); (try k_lift B'); (try k_fold))))
  have hK' := kept_of hG'
  clear hG'
  repeat' (first | (k_unfold; (try dsimp only)) | (k_end; wrow_close) | (with_reducible first | ((with_reducible show wpAny _ _ (execs [] _) _ _ _); (k_here; (with_reducible refine gen_toks ?_); intro _; (with_reducible refine wpAny_execs_nil ?_))) | ((with_reducible show wpAny _ _ (execs (_ :: _) _) _ _ _); (k_here; (with_reducible refine gen_toks ?_); intro _; (with_reducible refine wpAny_execs_cons ?_); (try k_fold)))) | walk1 | (dsimp only) | (leave1; walk_say "STEP leave1"; try dsimp only) | fail "no step")
  all_goals exact hret _ _ _ _ ⟨_, _, _, _, Int.fmod_nonneg_of_pos _ hm, Int.fmod_lt_of_pos _ hm, rfl, rfl⟩ (by exact Kept.trans (by assumption) (Fr.keep (by assumption))) (by k_asm) (by k_asm)
end
section
set_option maxHeartbeats 8000000 in
theorem token_does {w : World} {seed place more : Int} {t0 t1 t2 : Tok} (h0 : 0 ≤ seed) (h1 : seed < 251) (h2 : 0 ≤ place) (h3 : place < 16) (h4 : 0 ≤ more) (h5 : more < 256) :
    Does w 10 161 [.int seed t0, .int place t1, .int more t2] [] (fun r _ => ∃ t', r = .bytes (byteArr (tokL seed place more)) t') := by
  intro p loose mean mg mb dp un gd cn cs a ccd cl outer A₀ base h₀ L m s Q E B F X N T hk hdp hun hret
  have kM := kstMark
  refine wpAny_call ?_
  (first
  | (k_dflt (refine' code_keep ?k1 ?k2 ?k3 ?k4 ?k5 ?kA ?kF ?kK ?k6 ?k7 ?k8 ?k9 ?kB ?_ ?c2 ?c3 ?c4 ?c5; (case kA => exact rfl); (case kF => exact rfl); (case kK => first | exact rfl | assumption); (case k1 => k_asm); (case k2 => k_asm); (case k3 => k_asm); (case k4 => k_asm); (case k5 => k_asm); (case k6 => k_is); (case k7 => k_is); (case k8 => first | k_room | ktr_room); (case k9 => first | exact BindsTo.of_eq rfl | exact binds_K (by k_in) rfl (by k_is) rfl rfl rfl | fail "k_enter: no rule for these arguments"); (case c5 => decide); (case kB => exact locs rfl); (case c2 => exact rfl); (case c3 => exact rfl); (case c4 => exact rfl); k_whole; intro g' L' h' hG' FG' F' N' B' X' T'; (try dsimp only); (try k_lift B'); (try k_fold)))
  | (k_dflt (refine' code_keepC ?k1 ?k2 ?k3 ?k4 ?k5 ?kA ?kF ?kK ?k6 ?k7 ?k8 ?k9 ?kB ?kD ?_ ?c2 ?c3 ?c4; (case kA => exact rfl); (case kF => exact rfl); (case kK => first | exact rfl | assumption); (case k1 => k_asm); (case k2 => k_asm); (case k3 => k_asm); (case k4 => k_asm); (case k5 => k_asm); (case k6 => k_is); (case k7 => k_is); (case k8 => first | k_room | ktr_room); (case k9 => first | exact BindsTo.of_eq rfl | exact binds_K (by k_in) rfl (by k_is) rfl rfl rfl | fail "k_enter: no rule for these arguments"); (case kB => exact rfl); (case kD => decide +kernel); (case c2 => exact rfl); (case c3 => exact rfl); (case c4 => exact rfl); k_whole; intro g' L' h' tk' cells' hG' FG' F' N' Y' B' X' T' l1; (try k_lt l1); k_cells Y'; (try simp only [List.cons_append, List.nil_append] at N'); (try dsimp only); (try k_lift B'); (try k_fold))))
  have hK' := kept_of hG'
  clear hG'
  repeat' (first | (k_unfold; (try dsimp only)) | (k_end; wrow_close) | (with_reducible first | (k_here; (with_reducible show wpAny _ _ (call (Value.type "bytes") [Value.ref _]) _ _ _); k_dflt (refine' KBa.make_K ?kbaF ?kbaN ?kbah ?kbal ?kbai ?kbar ?kban ?_; (case kbaF => k_asm); (case kbaN => k_asm); (case kbah => rfl); (case kbal => is_list); (case kbai => with_reducible assumption); (case kbar => exact tokL_in _ _ _); (case kban => (simp only [List.length_set, List.length_map, rangeKs_length]; decide))); intro h' t' k' F' N' hb') | (k_here; (with_reducible show wpAny _ _ (setItem (Value.ref _) (Value.int _ _) (Value.int _ _)) _ _ _); k_dflt (refine' ksa_set ?k1 ?k2 ?k3 ?k4 ?k5 ?k6 ?k7 ?_; (case k1 => k_asm); (case k2 => k_asm); (case k3 => k_upd); (case k4 => with_reducible assumption); (case k5 => omega); (case k6 => (simp only [List.length_map, rangeKs_length]; omega)); (case k7 => omega); k_whole); intro h' F' N' hi' hl' hs'; (try k_sweep)) | ((with_reducible show wpAny _ _ (execs [] _) _ _ _); (k_here; (with_reducible refine gen_toks ?_); intro _; (with_reducible refine wpAny_execs_nil ?_))) | ((with_reducible show wpAny _ _ (execs (_ :: _) _) _ _ _); (k_here; (with_reducible refine gen_toks ?_); intro _; (with_reducible refine wpAny_execs_cons ?_); (try k_fold)))) | walk1 | (dsimp only) | (leave1; walk_say "STEP leave1"; try dsimp only) | fail "no step")
  all_goals exact hret _ [] _ _ ⟨_, rfl⟩ (by exact Kept.trans (by assumption) (Fr.keep (by assumption))) (by k_asm) News.nil
end
section
set_option maxHeartbeats 8000000 in
theorem most_does {w : World} {size a b : Int} {ls : Addr} {n : Nat} {t0 t1 t2 : Tok} (h0 : 18 ≤ size) (h1 : size < 68) (h2 : 0 ≤ a) (h3 : a < 24) (h4 : 0 ≤ b) (h5 : b < 24) :
    Does w 10 185 [.int size t0, .ref ls] [(ls, W.listOf #[.int a t1, .int b t2] n)] (fun r post => (∃ v t', MostIs (if (if 42 < size - 1 then 42 else size - 1) - 20 > 0 then (if 42 < size - 1 then 42 else size - 1) - 20 else 0) a b v ∧ r = .int v t') ∧ ∀ q ∈ [(ls, W.listOf #[.int a t1, .int b t2] n)], q ∈ post) := by
  intro p loose mean mg mb dp un gd cn cs a ccd cl outer A₀ base h₀ L m s Q E B F X N T hk hdp hun hret
  have kM := kstMark
  refine wpAny_call ?_
  (first
  | (k_dflt (refine' code_keep ?k1 ?k2 ?k3 ?k4 ?k5 ?kA ?kF ?kK ?k6 ?k7 ?k8 ?k9 ?kB ?_ ?c2 ?c3 ?c4 ?c5; (case kA => exact rfl); (case kF => exact rfl); (case kK => first | exact rfl | assumption); (case k1 => k_asm); (case k2 => k_asm); (case k3 => k_asm); (case k4 => k_asm); (case k5 => k_asm); (case k6 => k_is); (case k7 => k_is); (case k8 => first | k_room | ktr_room); (case k9 => first | exact BindsTo.of_eq rfl | exact binds_K (by k_in) rfl (by k_is) rfl rfl rfl | fail "k_enter: no rule for these arguments"); (case c5 => decide); (case kB => exact locs rfl); (case c2 => exact rfl); (case c3 => exact rfl); (case c4 => exact rfl); k_whole; intro g' L' h' hG' FG' F' N' B' X' T'; (try dsimp only); (try k_lift B'); (try k_fold)))
  | (k_dflt (refine' code_keepC ?k1 ?k2 ?k3 ?k4 ?k5 ?kA ?kF ?kK ?k6 ?k7 ?k8 ?k9 ?kB ?kD ?_ ?c2 ?c3 ?c4; (case kA => exact rfl); (case kF => exact rfl); (case kK => first | exact rfl | assumption); (case k1 => k_asm); (case k2 => k_asm); (case k3 => k_asm); (case k4 => k_asm); (case k5 => k_asm); (case k6 => k_is); (case k7 => k_is); (case k8 => first | k_room | ktr_room); (case k9 => first | exact BindsTo.of_eq rfl | exact binds_K (by k_in) rfl (by k_is) rfl rfl rfl | fail "k_enter: no rule for these arguments"); (case kB => exact rfl); (case kD => decide +kernel); (case c2 => exact rfl); (case c3 => exact rfl); (case c4 => exact rfl); k_whole; intro g' L' h' tk' cells' hG' FG' F' N' Y' B' X' T' l1; (try k_lt l1); k_cells Y'; (try simp only [List.cons_append, List.nil_append] at N'); (try dsimp only); (try k_lift B'); (try k_fold))))
  have hK' := kept_of hG'
  clear hG'
  repeat' (first | (k_unfold; (try dsimp only)) | (k_end; wrow_close) | (with_reducible first | ((with_reducible show wpAny _ _ (execs [] _) _ _ _); (k_here; (with_reducible refine gen_toks ?_); intro _; (with_reducible refine wpAny_execs_nil ?_))) | ((with_reducible show wpAny _ _ (execs (_ :: _) _) _ _ _); (k_here; (with_reducible refine gen_toks ?_); intro _; (with_reducible refine wpAny_execs_cons ?_); (try k_fold)))) | walk1 | (dsimp only) | (leave1; walk_say "STEP leave1"; try dsimp only) | fail "no step")
  all_goals exact hret _ [(ls, W.listOf #[.int _ t1, .int b t2] n)] _ _ ⟨⟨_, _, most_is (by split <;> omega) (by assumption) (by assumption), rfl⟩, fun _ h => h⟩ (by exact Kept.trans (by assumption) (Fr.keep (by assumption))) (by k_asm) (cb_drop (by k_asm) (by intro q hq; rw [List.mem_singleton.mp hq]; k_mem))
end
section
set_option maxHeartbeats 80000000 in
theorem onNew_does {w : World} {x dx kd td tp tq : Addr} {ko to : Obj} {rf : RF} {us : Value} {c c' c2 : Array UInt8} {tc tc' tc2 tl tr t1 t2 : Tok} {tk tkq tokv : Value} {ul ra : Addr} {uo ro : Obj}
    (hkd : ko.IsDictOf (intKind PySem.Challenge.rw_tk0093_01.prog w) [(0, .ref tp)]) (hlo : (kd == sysModules) = false) (htd : to.IsDictOf (intKind PySem.Challenge.rw_tk0093_01.prog w) [(0, .ref tq)]) (hlt : (td == sysModules) = false) (hc : c' ≠ c2)
    (d1 : @Ne Nat x dx) (d2 : @Ne Nat x kd) (d3 : @Ne Nat x td) (d4 : @Ne Nat dx kd) (d5 : @Ne Nat dx td) (d6 : @Ne Nat kd td) (d7 : @Ne Nat kd tp) (d8 : @Ne Nat kd tq) (d9 : @Ne Nat td tp) (d10 : @Ne Nat td tq) (d11 : @Ne Nat dx tp) (d12 : @Ne Nat dx tq) (d13 : @Ne Nat dx ul) (d14 : @Ne Nat dx ra) (d15 : @Ne Nat kd ul) (d16 : @Ne Nat kd ra) (d17 : @Ne Nat td ul) (d18 : @Ne Nat td ra) :
    Does w 20 88 [.ref x, .int 1 t1, .int 0 t2, .bytes c2 tc2, tokv] [(x, instObj 145 dx), (dx, dictOf (remEs w { rf with lim := .int 3 tl, rp := .int 0 tr, to := .ref td, em := .bool false } (.ref kd) us) 8), (kd, ko), (td, to), (tp, tup [.bytes c tc, tk]), (tq, tup [.bytes c' tc', tkq]), (ul, uo), (ra, ro)]
      (fun r post => r = .none ∧ ∃ (tp2 tq2 : Addr) (ko' to' : Obj) (tr' : Tok), ko'.IsDictOf (intKind PySem.Challenge.rw_tk0093_01.prog w) [(0, .ref tp), (1, .ref tp2)] ∧
        post = [(x, instObj 145 dx), (dx, dictOf (remEs w { rf with lim := .int 3 tl, rp := .int 0 tr', to := .ref td, em := .bool false } (.ref kd) us) 8), (kd, ko'), (td, to'), (tp, tup [.bytes c tc, tk]), (tq, tup [.bytes c' tc', tkq]), (tp2, tup [.bytes c2 tc2, tokv]), (tq2, tup [.bytes c2 tc2, tokv]), (ul, uo), (ra, ro)] ∧
        (@LT.lt Nat _ x tp2 ∧ @LT.lt Nat _ dx tp2 ∧ @LT.lt Nat _ kd tp2 ∧ @LT.lt Nat _ ul tp2 ∧ @LT.lt Nat _ ra tp2 ∧ @LT.lt Nat _ x tq2 ∧ @LT.lt Nat _ dx tq2 ∧ @LT.lt Nat _ kd tq2 ∧ @LT.lt Nat _ ul tq2 ∧ @LT.lt Nat _ ra tq2)) := by
  intro p loose mean mg mb dp un gd cn cs a ccd cl outer A₀ base h₀ L m s Q E B F X N T hk hdp hun hret
  have kM := kstMark
  dsimp only [remEs] at N
  refine wpAny_call ?_
  (first
  | (k_dflt (refine' code_keep ?k1 ?k2 ?k3 ?k4 ?k5 ?kA ?kF ?kK ?k6 ?k7 ?k8 ?k9 ?kB ?_ ?c2 ?c3 ?c4 ?c5; (case kA => exact rfl); (case kF => exact rfl); (case kK => first | exact rfl | assumption); (case k1 => k_asm); (case k2 => k_asm); (case k3 => k_asm); (case k4 => k_asm); (case k5 => k_asm); (case k6 => k_is); (case k7 => k_is); (case k8 => first | k_room | ktr_room); (case k9 => first | exact BindsTo.of_eq rfl | exact binds_K (by k_in) rfl (by k_is) rfl rfl rfl | fail "k_enter: no rule for these arguments"); (case c5 => decide); (case kB => exact locs rfl); (case c2 => exact rfl); (case c3 => exact rfl); (case c4 => exact rfl); k_whole; intro g' L' h' hG' FG' F' N' B' X' T'; (try dsimp only); (try k_lift B'); (try k_fold)))
  | (k_dflt (refine' code_keepC ?k1 ?k2 ?k3 ?k4 ?k5 ?kA ?kF ?kK ?k6 ?k7 ?k8 ?k9 ?kB ?kD ?_ ?c2 ?c3 ?c4; (case kA => exact rfl); (case kF => exact rfl); (case kK => first | exact rfl | assumption); (case k1 => k_asm); (case k2 => k_asm); (case k3 => k_asm); (case k4 => k_asm); (case k5 => k_asm); (case k6 => k_is); (case k7 => k_is); (case k8 => first | k_room | ktr_room); (case k9 => first | exact BindsTo.of_eq rfl | exact binds_K (by k_in) rfl (by k_is) rfl rfl rfl | fail "k_enter: no rule for these arguments"); (case kB => exact rfl); (case kD => decide +kernel); (case c2 => exact rfl); (case c3 => exact rfl); (case c4 => exact rfl); k_whole; intro g' L' h' tk' cells' hG' FG' F' N' Y' B' X' T' l1; (try k_lt l1); k_cells Y'; (try simp only [List.cons_append, List.nil_append] at N'); (try dsimp only); (try k_lift B'); (try k_fold))))
  have hK' := kept_of hG'
  clear hG'
  repeat' (first | (k_unfold; (try dsimp only)) | (k_end; wrow_close) | (with_reducible first | (k_here; (with_reducible show wpAny _ _ (compareOp _ (Value.bytes _ _) (Value.bytes _ _)) _ _ _); (refine eqb_not (by with_reducible assumption) ?_)) | (k_here; (with_reducible show wpAny _ _ (compareOp _ (Value.int _ _) (Value.int _ _)) _ _ _); (refine' gti_not ?gtg ?_; (case gtg => (simp; done)))) | (k_here; (with_reducible show wpAny _ _ (compareOp _ (Value.int _ _) (Value.int _ _)) _ _ _); (refine eqi_not (by decide) ?_)) | (k_here; (with_reducible show wpAny _ _ (call (Value.builtin "sorted") [Value.ref _]) _ _ _); k_dflt (first | (refine sorted_two (by rfl) (by k_asm) (by k_asm) (by k_mem) (by k_asm) (by k_asm) ?_; intro D' h' tk' t1' t2' F' N' l1) | (refine sorted_one (by rfl) (by k_asm) (by k_asm) (by k_mem) (by k_asm) (by k_asm) ?_; intro D' h' tk' t1' F' N' l1)); (try k_lt l1)) | (k_here; (with_reducible show wpAny _ _ (pyIter (Value.ref _)) (fun it s₂ => TurnsAt _ _ _ _ _ _ _ _ _ it s₂) _ _); (rename Fr _ _ _ _ => lF'); (rename News _ _ _ _ => lN'); (with_unfolding_all refine kta_keys (knd := PySem.intKind _ _) (enc := PyData.int) (xs := [Itm.tok (fun t => Value.int 0 t)]) (by rfl) lF' lN' (by k_mem) (by k_asm) (by k_asm) (fun _ _ h => Value.isInt_shape h) (by rfl) ?_); clear lF' lN'; intro i' l1; (try k_lt l1)) | ((with_reducible show wpAny _ _ (exec (Stmt.For _ _ _ _ _) _) _ _ _); (k_here; (rename Fr _ _ _ _ => lF'); (with_unfolding_all refine' For_turns lF' ?_); k_whole)) | ((with_reducible show wpAny _ _ (exec (Stmt.If _ _ _ _) _) _ _ _); (k_here; with_reducible refine wpAny_If ?_)) | ((with_reducible show wpAny _ _ (call (Value.ref _) _) _ _ _); (k_here; k_dflt (first | (refine' call_cls0 ?k1 ?k2 ?k3 ?k4 ?k5 ?_; (case k1 => k_asm); (case k2 => k_asm); (case k3 => k_asm); (case k4 => k_is); (case k5 => k_is); k_whole; intro x' d' h' F' N' l1 l2; (try k_lt l1); (try k_lt2 l2); (try k_sweep)) | (refine' call_cls ?k1 ?k2 ?k3 ?k4 ?k5 ?k6 ?_; (case k1 => k_asm); (case k2 => k_asm); (case k3 => k_asm); (case k4 => k_is); (case k5 => k_is); (case k6 => k_is); k_whole; intro x' d' h' F' N' l1 l2; (try k_lt l1); (try k_lt2 l2); (try k_sweep); (first | (k_dflt (refine' code_def ?k1 ?k2 ?k3 ?k4 ?k5 ?kA ?kF ?kK ?k6 ?k7 ?k8 ?k9 ?kB ?_ ?c2 ?c3 ?c4 ?c5; (case kA => exact rfl); (case kF => exact rfl); (case kK => first | exact rfl | assumption); (case k1 => k_asm); (case k2 => k_asm); (case k3 => k_asm); (case k4 => k_asm); (case k5 => k_asm); (case k6 => k_is); (case k7 => k_is); (case k8 => first | k_room | ktr_room); (case k9 => first | exact BindsTo.of_eq rfl | exact binds_K (by k_in) rfl (by k_is) rfl rfl rfl | fail "k_enter: no rule for these arguments"); (case c5 => decide); (case kB => exact locs rfl); (case c2 => exact rfl); (case c3 => exact rfl); (case c4 => exact rfl); k_whole; intro g' L' h' FG' F' N' B' X' T'; (try dsimp only); (try k_lift B'); (try k_fold))) | (k_dflt (refine' code_defC ?k1 ?k2 ?k3 ?k4 ?k5 ?kA ?kF ?kK ?k6 ?k7 ?k8 ?k9 ?kB ?kD ?_ ?c2 ?c3 ?c4; (case kA => exact rfl); (case kF => exact rfl); (case kK => first | exact rfl | assumption); (case k1 => k_asm); (case k2 => k_asm); (case k3 => k_asm); (case k4 => k_asm); (case k5 => k_asm); (case k6 => k_is); (case k7 => k_is); (case k8 => first | k_room | ktr_room); (case k9 => first | exact BindsTo.of_eq rfl | exact binds_K (by k_in) rfl (by k_is) rfl rfl rfl | fail "k_enter: no rule for these arguments"); (case kB => exact rfl); (case kD => decide +kernel); (case c2 => exact rfl); (case c3 => exact rfl); (case c4 => exact rfl); k_whole; intro g' L' h' tk' cells' FG' F' N' Y' B' X' T' l1; (try k_lt l1); k_cells Y'; (try simp only [List.cons_append, List.nil_append] at N'); (try dsimp only); (try k_lift B'); (try k_fold))))) | (refine' call_meth ?k1 ?k2 ?_; (case k1 => k_asm); (case k2 => k_mem); k_whole; (first | (k_dflt (refine' code_def ?k1 ?k2 ?k3 ?k4 ?k5 ?kA ?kF ?kK ?k6 ?k7 ?k8 ?k9 ?kB ?_ ?c2 ?c3 ?c4 ?c5; (case kA => exact rfl); (case kF => exact rfl); (case kK => first | exact rfl | assumption); (case k1 => k_asm); (case k2 => k_asm); (case k3 => k_asm); (case k4 => k_asm); (case k5 => k_asm); (case k6 => k_is); (case k7 => k_is); (case k8 => first | k_room | ktr_room); (case k9 => first | exact BindsTo.of_eq rfl | exact binds_K (by k_in) rfl (by k_is) rfl rfl rfl | fail "k_enter: no rule for these arguments"); (case c5 => decide); (case kB => exact locs rfl); (case c2 => exact rfl); (case c3 => exact rfl); (case c4 => exact rfl); k_whole; intro g' L' h' FG' F' N' B' X' T'; (try dsimp only); (try k_lift B'); (try k_fold))) | (k_dflt (refine' code_defC ?k1 ?k2 ?k3 ?k4 ?k5 ?kA ?kF ?kK ?k6 ?k7 ?k8 ?k9 ?kB ?kD ?_ ?c2 ?c3 ?c4; (case kA => exact rfl); (case kF => exact rfl); (case kK => first | exact rfl | assumption); (case k1 => k_asm); (case k2 => k_asm); (case k3 => k_asm); (case k4 => k_asm); (case k5 => k_asm); (case k6 => k_is); (case k7 => k_is); (case k8 => first | k_room | ktr_room); (case k9 => first | exact BindsTo.of_eq rfl | exact binds_K (by k_in) rfl (by k_is) rfl rfl rfl | fail "k_enter: no rule for these arguments"); (case kB => exact rfl); (case kD => decide +kernel); (case c2 => exact rfl); (case c3 => exact rfl); (case c4 => exact rfl); k_whole; intro g' L' h' tk' cells' FG' F' N' Y' B' X' T' l1; (try k_lt l1); k_cells Y'; (try simp only [List.cons_append, List.nil_append] at N'); (try dsimp only); (try k_lift B'); (try k_fold))))) | (refine wpAny_call ?_; (first | (k_dflt (refine' code_def ?k1 ?k2 ?k3 ?k4 ?k5 ?kA ?kF ?kK ?k6 ?k7 ?k8 ?k9 ?kB ?_ ?c2 ?c3 ?c4 ?c5; (case kA => exact rfl); (case kF => exact rfl); (case kK => first | exact rfl | assumption); (case k1 => k_asm); (case k2 => k_asm); (case k3 => k_asm); (case k4 => k_asm); (case k5 => k_asm); (case k6 => k_is); (case k7 => k_is); (case k8 => first | k_room | ktr_room); (case k9 => first | exact BindsTo.of_eq rfl | exact binds_K (by k_in) rfl (by k_is) rfl rfl rfl | fail "k_enter: no rule for these arguments"); (case c5 => decide); (case kB => exact locs rfl); (case c2 => exact rfl); (case c3 => exact rfl); (case c4 => exact rfl); k_whole; intro g' L' h' FG' F' N' B' X' T'; (try dsimp only); (try k_lift B'); (try k_fold))) | (k_dflt (refine' code_defC ?k1 ?k2 ?k3 ?k4 ?k5 ?kA ?kF ?kK ?k6 ?k7 ?k8 ?k9 ?kB ?kD ?_ ?c2 ?c3 ?c4; (case kA => exact rfl); (case kF => exact rfl); (case kK => first | exact rfl | assumption); (case k1 => k_asm); (case k2 => k_asm); (case k3 => k_asm); (case k4 => k_asm); (case k5 => k_asm); (case k6 => k_is); (case k7 => k_is); (case k8 => first | k_room | ktr_room); (case k9 => first | exact BindsTo.of_eq rfl | exact binds_K (by k_in) rfl (by k_is) rfl rfl rfl | fail "k_enter: no rule for these arguments"); (case kB => exact rfl); (case kD => decide +kernel); (case c2 => exact rfl); (case c3 => exact rfl); (case c4 => exact rfl); k_whole; intro g' L' h' tk' cells' FG' F' N' Y' B' X' T' l1; (try k_lt l1); k_cells Y'; (try simp only [List.cons_append, List.nil_append] at N'); (try dsimp only); (try k_lift B'); (try k_fold)))))))) | ((with_reducible show wpAny _ _ (execs [] _) _ _ _); (k_here; (with_reducible refine gen_toks ?_); intro _; (with_reducible refine wpAny_execs_nil ?_))) | ((with_reducible show wpAny _ _ (execs (_ :: _) _) _ _ _); (k_here; (with_reducible refine gen_toks ?_); intro _; (with_reducible refine wpAny_execs_cons ?_); (try k_fold)))) | walk1 | (dsimp only) | (leave1; walk_say "STEP leave1"; try dsimp only) | fail "no step")
  refine' hret _ [(x, instObj 145 dx), (dx, dictOf (remEs w { rf with lim := .int 3 tl, rp := .int 0 ?tr1, to := .ref td, em := .bool false } (.ref kd) us) 8), (kd, ?ko1), (td, ?to1), (tp, tup [.bytes c tc, tk]), (tq, tup [.bytes c' tc', tkq]), (?tp1, tup [.bytes c2 tc2, tokv]), (?tq1, tup [.bytes c2 tc2, tokv]), (ul, uo), (ra, ro)] _ _ ⟨rfl, ?tp1, ?tq1, ?ko1, ?to1, ?tr1, ?hk1, rfl, ?ord1⟩ (by exact Kept.trans (by assumption) (Fr.keep (by assumption))) (by k_asm) (cb_drop (by k_asm) ?sub1)
  case hk1 => assumption
  case sub1 =>
    refine' List.forall_mem_cons.mpr ⟨?ma, List.forall_mem_cons.mpr ⟨?mb, List.forall_mem_cons.mpr ⟨?mc, List.forall_mem_cons.mpr ⟨?md, List.forall_mem_cons.mpr ⟨?me, List.forall_mem_cons.mpr ⟨?mf, List.forall_mem_cons.mpr ⟨?mg, List.forall_mem_cons.mpr ⟨?mh, List.forall_mem_cons.mpr ⟨?mi, List.forall_mem_cons.mpr ⟨?mj, List.forall_mem_nil _⟩⟩⟩⟩⟩⟩⟩⟩⟩⟩
    (case ma => k_mem); (case mb => k_mem); (case mc => k_mem); (case md => k_mem); (case me => k_mem); (case mf => k_mem); (case mg => k_mem); (case mh => k_mem); (case mi => k_mem); (case mj => k_mem)
  case ord1 => omega
end
section
local macro_rules | `(tactic| walk_at "call builtin:sorted") => `(tactic| (k_here; (with_reducible show wpAny _ _ (call (Value.builtin "sorted") [Value.ref _]) _ _ _); k_dflt (first
  | (refine sorted_two (by rfl) (by k_asm) (by k_asm) (by k_mem) (by k_asm) (by k_asm) ?_; intro D' h' tk' t1' t2' F' N' l1)
  | (refine sorted_one (by rfl) (by k_asm) (by k_asm) (by k_mem) (by k_asm) (by k_asm) ?_; intro D' h' tk' t1' F' N' l1)); (try k_lt l1)))
local macro_rules | `(tactic| lcg_off) => `(tactic| ((simp only [LCg.Off3, and_true]); with_reducible assumption))
set_option maxHeartbeats 80000000 in
theorem change_does {w : World} {x dx kd ul tr tp tq : Addr} {ko : Obj} {rf : RF} {tu tcu : Tok} {n n2 : Nat}
    (hkd : ko.IsDictOf (intKind PySem.Challenge.rw_tk0093_01.prog w) [(0, .ref tp), (1, .ref tq)]) (hlo : (kd == sysModules) = false)
    (d1 : @Ne Nat x dx) (d2 : @Ne Nat x kd) (d3 : @Ne Nat x ul) (d4 : @Ne Nat x tr) (d5 : @Ne Nat dx kd) (d6 : @Ne Nat dx ul) (d7 : @Ne Nat dx tr) (d8 : @Ne Nat kd ul) (d9 : @Ne Nat kd tr) (d10 : @Ne Nat ul tr) :
    Does w 20 128 [.ref x] [(x, instObj 145 dx), (dx, dictOf (remEs w { rf with cu := .int 0 tcu, tr := .ref tr } (.ref kd) (.ref ul)) 8), (kd, ko), (ul, W.listOf #[.int 0 tu] n), (tr, W.listOf #[] n2)]
      (fun r post => r = .bool true ∧ ∃ (ko' : Obj) (tcu' tv : Tok) (n' n2' : Nat) (tz : Tok), ko'.IsDictOf (intKind PySem.Challenge.rw_tk0093_01.prog w) [(1, .ref tq)] ∧
        post = [(x, instObj 145 dx), (dx, dictOf (remEs w { rf with cu := .int 1 tcu', tr := .ref tr } (.ref kd) (.ref ul)) 8), (kd, ko'), (ul, W.listOf #[.int 0 tu, .int 1 tv] n'), (tr, W.listOf #[.int 0 tz] n2')]) := by
  intro p loose mean mg mb dp un gd cn cs a ccd cl outer A₀ base h₀ L m s Q E B F X N T hk hdp hun hret
  have kM := kstMark
  dsimp only [remEs] at N
  refine wpAny_call ?_
  (first
  | (k_dflt (refine' code_keep ?k1 ?k2 ?k3 ?k4 ?k5 ?kA ?kF ?kK ?k6 ?k7 ?k8 ?k9 ?kB ?_ ?c2 ?c3 ?c4 ?c5; (case kA => exact rfl); (case kF => exact rfl); (case kK => first | exact rfl | assumption); (case k1 => k_asm); (case k2 => k_asm); (case k3 => k_asm); (case k4 => k_asm); (case k5 => k_asm); (case k6 => k_is); (case k7 => k_is); (case k8 => first | k_room | ktr_room); (case k9 => first | exact BindsTo.of_eq rfl | exact binds_K (by k_in) rfl (by k_is) rfl rfl rfl | fail "k_enter: no rule for these arguments"); (case c5 => decide); (case kB => exact locs rfl); (case c2 => exact rfl); (case c3 => exact rfl); (case c4 => exact rfl); k_whole; intro g' L' h' hG' FG' F' N' B' X' T'; (try dsimp only); (try k_lift B'); (try k_fold)))
  | (k_dflt (refine' code_keepC ?k1 ?k2 ?k3 ?k4 ?k5 ?kA ?kF ?kK ?k6 ?k7 ?k8 ?k9 ?kB ?kD ?_ ?c2 ?c3 ?c4; (case kA => exact rfl); (case kF => exact rfl); (case kK => first | exact rfl | assumption); (case k1 => k_asm); (case k2 => k_asm); (case k3 => k_asm); (case k4 => k_asm); (case k5 => k_asm); (case k6 => k_is); (case k7 => k_is); (case k8 => first | k_room | ktr_room); (case k9 => first | exact BindsTo.of_eq rfl | exact binds_K (by k_in) rfl (by k_is) rfl rfl rfl | fail "k_enter: no rule for these arguments"); (case kB => exact rfl); (case kD => decide +kernel); (case c2 => exact rfl); (case c3 => exact rfl); (case c4 => exact rfl); k_whole; intro g' L' h' tk' cells' hG' FG' F' N' Y' B' X' T' l1; (try k_lt l1); k_cells Y'; (try simp only [List.cons_append, List.nil_append] at N'); (try dsimp only); (try k_lift B'); (try k_fold))))
  have hK' := kept_of hG'
  clear hG'
  repeat' (first | (k_unfold; (try dsimp only)) | (k_end; wrow_close) | (with_reducible first | (k_here; (with_reducible show wpAny _ _ (compareOp _ (Value.bytes _ _) (Value.bytes _ _)) _ _ _); (refine eqb_not (by with_reducible assumption) ?_)) | (k_here; (with_reducible show wpAny _ _ (compareOp _ (Value.int _ _) (Value.int _ _)) _ _ _); (refine' gti_not ?gtg ?_; (case gtg => (simp; done)))) | (k_here; (with_reducible show wpAny _ _ (compareOp _ (Value.int _ _) (Value.int _ _)) _ _ _); (refine eqi_not (by decide) ?_)) | (k_here; (with_reducible show wpAny _ _ (pyIter (Value.ref _)) (fun it s₂ => TurnsAt _ _ _ _ _ _ _ _ _ it s₂) _ _); (rename Fr _ _ _ _ => lF'); (rename News _ _ _ _ => lN'); (with_unfolding_all refine kta_keys (knd := PySem.intKind _ _) (enc := PyData.int) (xs := [Itm.tok (fun t => Value.int 0 t)]) (by rfl) lF' lN' (by k_mem) (by k_asm) (by k_asm) (fun _ _ h => Value.isInt_shape h) (by rfl) ?_); clear lF' lN'; intro i' l1; (try k_lt l1)) | ((with_reducible show wpAny _ _ (exec (Stmt.For _ _ _ _ _) _) _ _ _); (k_here; (rename Fr _ _ _ _ => lF'); (with_unfolding_all refine' For_turns lF' ?_); k_whole)) | ((with_reducible show wpAny _ _ (exec (Stmt.If _ _ _ _) _) _ _ _); (k_here; with_reducible refine wpAny_If ?_)) | ((with_reducible show wpAny _ _ (call (Value.ref _) _) _ _ _); (k_here; k_dflt (first | (refine' call_cls0 ?k1 ?k2 ?k3 ?k4 ?k5 ?_; (case k1 => k_asm); (case k2 => k_asm); (case k3 => k_asm); (case k4 => k_is); (case k5 => k_is); k_whole; intro x' d' h' F' N' l1 l2; (try k_lt l1); (try k_lt2 l2); (try k_sweep)) | (refine' call_cls ?k1 ?k2 ?k3 ?k4 ?k5 ?k6 ?_; (case k1 => k_asm); (case k2 => k_asm); (case k3 => k_asm); (case k4 => k_is); (case k5 => k_is); (case k6 => k_is); k_whole; intro x' d' h' F' N' l1 l2; (try k_lt l1); (try k_lt2 l2); (try k_sweep); (first | (k_dflt (refine' code_def ?k1 ?k2 ?k3 ?k4 ?k5 ?kA ?kF ?kK ?k6 ?k7 ?k8 ?k9 ?kB ?_ ?c2 ?c3 ?c4 ?c5; (case kA => exact rfl); (case kF => exact rfl); (case kK => first | exact rfl | assumption); (case k1 => k_asm); (case k2 => k_asm); (case k3 => k_asm); (case k4 => k_asm); (case k5 => k_asm); (case k6 => k_is); (case k7 => k_is); (case k8 => first | k_room | ktr_room); (case k9 => first | exact BindsTo.of_eq rfl | exact binds_K (by k_in) rfl (by k_is) rfl rfl rfl | fail "k_enter: no rule for these arguments"); (case c5 => decide); (case kB => exact locs rfl); (case c2 => exact rfl); (case c3 => exact rfl); (case c4 => exact rfl); k_whole; intro g' L' h' FG' F' N' B' X' T'; (try dsimp only); (try k_lift B'); (try k_fold))) | (k_dflt (refine' code_defC ?k1 ?k2 ?k3 ?k4 ?k5 ?kA ?kF ?kK ?k6 ?k7 ?k8 ?k9 ?kB ?kD ?_ ?c2 ?c3 ?c4; (case kA => exact rfl); (case kF => exact rfl); (case kK => first | exact rfl | assumption); (case k1 => k_asm); (case k2 => k_asm); (case k3 => k_asm); (case k4 => k_asm); (case k5 => k_asm); (case k6 => k_is); (case k7 => k_is); (case k8 => first | k_room | ktr_room); (case k9 => first | exact BindsTo.of_eq rfl | exact binds_K (by k_in) rfl (by k_is) rfl rfl rfl | fail "k_enter: no rule for these arguments"); (case kB => exact rfl); (case kD => decide +kernel); (case c2 => exact rfl); (case c3 => exact rfl); (case c4 => exact rfl); k_whole; intro g' L' h' tk' cells' FG' F' N' Y' B' X' T' l1; (try k_lt l1); k_cells Y'; (try simp only [List.cons_append, List.nil_append] at N'); (try dsimp only); (try k_lift B'); (try k_fold))))) | (refine' call_meth ?k1 ?k2 ?_; (case k1 => k_asm); (case k2 => k_mem); k_whole; (first | (k_dflt (refine' code_def ?k1 ?k2 ?k3 ?k4 ?k5 ?kA ?kF ?kK ?k6 ?k7 ?k8 ?k9 ?kB ?_ ?c2 ?c3 ?c4 ?c5; (case kA => exact rfl); (case kF => exact rfl); (case kK => first | exact rfl | assumption); (case k1 => k_asm); (case k2 => k_asm); (case k3 => k_asm); (case k4 => k_asm); (case k5 => k_asm); (case k6 => k_is); (case k7 => k_is); (case k8 => first | k_room | ktr_room); (case k9 => first | exact BindsTo.of_eq rfl | exact binds_K (by k_in) rfl (by k_is) rfl rfl rfl | fail "k_enter: no rule for these arguments"); (case c5 => decide); (case kB => exact locs rfl); (case c2 => exact rfl); (case c3 => exact rfl); (case c4 => exact rfl); k_whole; intro g' L' h' FG' F' N' B' X' T'; (try dsimp only); (try k_lift B'); (try k_fold))) | (k_dflt (refine' code_defC ?k1 ?k2 ?k3 ?k4 ?k5 ?kA ?kF ?kK ?k6 ?k7 ?k8 ?k9 ?kB ?kD ?_ ?c2 ?c3 ?c4; (case kA => exact rfl); (case kF => exact rfl); (case kK => first | exact rfl | assumption); (case k1 => k_asm); (case k2 => k_asm); (case k3 => k_asm); (case k4 => k_asm); (case k5 => k_asm); (case k6 => k_is); (case k7 => k_is); (case k8 => first | k_room | ktr_room); (case k9 => first | exact BindsTo.of_eq rfl | exact binds_K (by k_in) rfl (by k_is) rfl rfl rfl | fail "k_enter: no rule for these arguments"); (case kB => exact rfl); (case kD => decide +kernel); (case c2 => exact rfl); (case c3 => exact rfl); (case c4 => exact rfl); k_whole; intro g' L' h' tk' cells' FG' F' N' Y' B' X' T' l1; (try k_lt l1); k_cells Y'; (try simp only [List.cons_append, List.nil_append] at N'); (try dsimp only); (try k_lift B'); (try k_fold))))) | (refine wpAny_call ?_; (first | (k_dflt (refine' code_def ?k1 ?k2 ?k3 ?k4 ?k5 ?kA ?kF ?kK ?k6 ?k7 ?k8 ?k9 ?kB ?_ ?c2 ?c3 ?c4 ?c5; (case kA => exact rfl); (case kF => exact rfl); (case kK => first | exact rfl | assumption); (case k1 => k_asm); (case k2 => k_asm); (case k3 => k_asm); (case k4 => k_asm); (case k5 => k_asm); (case k6 => k_is); (case k7 => k_is); (case k8 => first | k_room | ktr_room); (case k9 => first | exact BindsTo.of_eq rfl | exact binds_K (by k_in) rfl (by k_is) rfl rfl rfl | fail "k_enter: no rule for these arguments"); (case c5 => decide); (case kB => exact locs rfl); (case c2 => exact rfl); (case c3 => exact rfl); (case c4 => exact rfl); k_whole; intro g' L' h' FG' F' N' B' X' T'; (try dsimp only); (try k_lift B'); (try k_fold))) | (k_dflt (refine' code_defC ?k1 ?k2 ?k3 ?k4 ?k5 ?kA ?kF ?kK ?k6 ?k7 ?k8 ?k9 ?kB ?kD ?_ ?c2 ?c3 ?c4; (case kA => exact rfl); (case kF => exact rfl); (case kK => first | exact rfl | assumption); (case k1 => k_asm); (case k2 => k_asm); (case k3 => k_asm); (case k4 => k_asm); (case k5 => k_asm); (case k6 => k_is); (case k7 => k_is); (case k8 => first | k_room | ktr_room); (case k9 => first | exact BindsTo.of_eq rfl | exact binds_K (by k_in) rfl (by k_is) rfl rfl rfl | fail "k_enter: no rule for these arguments"); (case kB => exact rfl); (case kD => decide +kernel); (case c2 => exact rfl); (case c3 => exact rfl); (case c4 => exact rfl); k_whole; intro g' L' h' tk' cells' FG' F' N' Y' B' X' T' l1; (try k_lt l1); k_cells Y'; (try simp only [List.cons_append, List.nil_append] at N'); (try dsimp only); (try k_lift B'); (try k_fold)))))))) | ((with_reducible show wpAny _ _ (execs [] _) _ _ _); (k_here; (with_reducible refine gen_toks ?_); intro _; (with_reducible refine wpAny_execs_nil ?_))) | ((with_reducible show wpAny _ _ (execs (_ :: _) _) _ _ _); (k_here; (with_reducible refine gen_toks ?_); intro _; (with_reducible refine wpAny_execs_cons ?_); (try k_fold)))) | walk1 | (dsimp only) | (leave1; walk_say "STEP leave1"; try dsimp only) | fail "no step")
  refine' hret _ [(x, instObj 145 dx), (dx, dictOf (remEs w { rf with cu := .int 1 ?tc1, tr := .ref tr } (.ref kd) (.ref ul)) 8), (kd, ?ko1), (ul, W.listOf #[.int 0 tu, .int 1 ?tv1] ?n1), (tr, W.listOf #[.int 0 ?tz1] ?n2)] _ _ ⟨rfl, ?ko1, ?tc1, ?tv1, ?n1, ?n2, ?tz1, ?hk1, rfl⟩ (by exact Kept.trans (by assumption) (Fr.keep (by assumption))) (by k_asm) (cb_drop (by k_asm) ?sub1)
  case hk1 => assumption
  case sub1 =>
    refine' List.forall_mem_cons.mpr ⟨?ma, List.forall_mem_cons.mpr ⟨?mb, List.forall_mem_cons.mpr ⟨?mc, List.forall_mem_cons.mpr ⟨?md, List.forall_mem_cons.mpr ⟨?me, List.forall_mem_nil _⟩⟩⟩⟩⟩
    (case ma => k_mem); (case mb => k_mem); (case mc => k_mem); (case md => k_mem); (case me => k_mem)
end
section
/-- where a new end's ids stand -/
structure NR where
  (x dx kd td ul tr tp tq : Addr) (ko to : Obj) (t0 t1 t2 t3 t4 t5 t6 t7 tcu tu trp : Tok)
set_option maxHeartbeats 80000000 in
theorem mkRem_does {w : World} {c : Array UInt8} {tc u : Tok} {tok : Value} {lim : Int} (hc : (c.size : Int) ≠ 0) (hc2 : c.size ≤ 1000) :
    DoesO w 10 145 [.bytes c tc, tok, .int lim u] (fun r post => ∃ e : NR,
      r = .ref e.x ∧ e.ko.IsDictOf (intKind PySem.Challenge.rw_tk0093_01.prog w) [(0, .ref e.tp)] ∧ e.to.IsDictOf (intKind PySem.Challenge.rw_tk0093_01.prog w) [(0, .ref e.tq)] ∧ (e.kd == sysModules) = false ∧ (e.td == sysModules) = false ∧
      (@LT.lt Nat _ e.dx e.x ∧ @LT.lt Nat _ e.x e.kd ∧ @LT.lt Nat _ e.kd e.tp ∧ @LT.lt Nat _ e.tp e.ul ∧ @LT.lt Nat _ e.ul e.td ∧ @LT.lt Nat _ e.td e.tq ∧ @LT.lt Nat _ e.tq e.tr) ∧
      post = [(e.x, instObj 145 e.dx), (e.dx, dictOf [ent w "limit" e.t0 (.int lim u), ent w "known" e.t1 (.ref e.kd), ent w "current" e.t2 (.int 0 e.tcu), ent w "used" e.t3 (.ref e.ul), ent w "retire_prior" e.t4 (.int 0 e.trp), ent w "told" e.t5 (.ref e.td), ent w "to_retire" e.t6 (.ref e.tr), ent w "is_empty" e.t7 (.bool false)] 8),
        (e.kd, e.ko), (e.td, e.to), (e.ul, W.listOf #[.int 0 e.tu] 0), (e.tr, W.listOf #[] 0), (e.tp, tup [.bytes c tc, tok]), (e.tq, tup [.bytes c tc, tok])]) := by
  intro p loose mean mg mb dp un gd cn cs a ccd cl outer A₀ base h₀ L m news s Q E B F X N T hk hdp hun hret
  have kM := kstMark
  refine' call_cls ?k1 ?k2 ?k3 ?k4 ?k5 ?k6 ?_
  case k1 => exact F
  case k2 => exact X
  case k3 => exact N
  case k4 => k_is
  case k5 => k_is
  case k6 => k_is
  intro x0 dx0 h1 F1 N1 l1 l2
  have N2 := cb_drop (news := [(x0, instObj 145 dx0), (dx0, dictOf [] 0)]) N1 (by intro q hq; simp only [List.mem_cons, List.not_mem_nil, or_false] at hq; rcases hq with rfl | rfl <;> simp)
  have NB := Box.mk N1
  have lB := Box.mk l1
  have lC : @LT.lt Nat _ dx0 x0 := l2
  clear N1 N F l1 l2
  (first
  | (k_dflt (refine' code_keep ?k1 ?k2 ?k3 ?k4 ?k5 ?kA ?kF ?kK ?k6 ?k7 ?k8 ?k9 ?kB ?_ ?c2 ?c3 ?c4 ?c5; (case kA => exact rfl); (case kF => exact rfl); (case kK => first | exact rfl | assumption); (case k1 => k_asm); (case k2 => k_asm); (case k3 => k_asm); (case k4 => k_asm); (case k5 => k_asm); (case k6 => k_is); (case k7 => k_is); (case k8 => first | k_room | ktr_room); (case k9 => first | exact BindsTo.of_eq rfl | exact binds_K (by k_in) rfl (by k_is) rfl rfl rfl | fail "k_enter: no rule for these arguments"); (case c5 => decide); (case kB => exact locs rfl); (case c2 => exact rfl); (case c3 => exact rfl); (case c4 => exact rfl); k_whole; intro g' L' h' hG' FG' F' N' B' X' T'; (try dsimp only); (try k_lift B'); (try k_fold)))
  | (k_dflt (refine' code_keepC ?k1 ?k2 ?k3 ?k4 ?k5 ?kA ?kF ?kK ?k6 ?k7 ?k8 ?k9 ?kB ?kD ?_ ?c2 ?c3 ?c4; (case kA => exact rfl); (case kF => exact rfl); (case kK => first | exact rfl | assumption); (case k1 => k_asm); (case k2 => k_asm); (case k3 => k_asm); (case k4 => k_asm); (case k5 => k_asm); (case k6 => k_is); (case k7 => k_is); (case k8 => first | k_room | ktr_room); (case k9 => first | exact BindsTo.of_eq rfl | exact binds_K (by k_in) rfl (by k_is) rfl rfl rfl | fail "k_enter: no rule for these arguments"); (case kB => exact rfl); (case kD => decide +kernel); (case c2 => exact rfl); (case c3 => exact rfl); (case c4 => exact rfl); k_whole; intro g' L' h' tk' cells' hG' FG' F' N' Y' B' X' T' l1; (try k_lt l1); k_cells Y'; (try simp only [List.cons_append, List.nil_append] at N'); (try dsimp only); (try k_lift B'); (try k_fold))))
  have hK' := kept_of hG'
  clear hG'
  repeat' (first | (k_unfold; (try dsimp only)) | (k_end; wrow_close) | (with_reducible first | (k_here; (with_reducible show wpAny _ _ (compareOp _ (Value.int _ _) (Value.int _ _)) _ _ _); (refine eqi_not (by with_reducible assumption) ?_)) | ((with_reducible show wpAny _ _ (exec (Stmt.If _ _ _ _) _) _ _ _); (k_here; with_reducible refine wpAny_If ?_)) | ((with_reducible show wpAny _ _ (eval (PySem.Expr.Dict _ _ _) _) _ _ _); (k_here; k_dflt (refine' kdn_int ?q ?F ?N ?b ?a ?l ?e ?n ?_; (case q => rfl); (case F => k_asm); (case N => first | k_asm | exact News.nil); (case b => exact Top.nolimit (by k_asm)); (case a => rfl); (case l => rfl); (case e => exact List.cons_ne_nil _ _); (case n => exact Nat.le_of_ble_eq_true rfl)); intro d' h' o' F' N' l1 lo' hd'; (try k_lt l1))) | ((with_reducible show wpAny _ _ (execs [] _) _ _ _); (k_here; (with_reducible refine gen_toks ?_); intro _; (with_reducible refine wpAny_execs_nil ?_))) | ((with_reducible show wpAny _ _ (execs (_ :: _) _) _ _ _); (k_here; (with_reducible refine gen_toks ?_); intro _; (with_reducible refine wpAny_execs_cons ?_); (try k_fold)))) | walk1 | (dsimp only) | (leave1; walk_say "STEP leave1"; try dsimp only) | fail "no step")
  have mk := made_of (cb_drop (news := news) NB.out (fun q hq => List.mem_cons_of_mem _ (List.mem_cons_of_mem _ hq))) (fun q hq hm => by
    have h1 := lB.out q hq
    simp only [List.map_cons, List.map_nil, List.mem_cons, List.not_mem_nil, or_false] at hm
    rcases hm with h2 | h2
    · exact absurd (Nat.lt_trans (h2 ▸ h1 : @LT.lt Nat _ x0 dx0) lC) (Nat.lt_irrefl _)
    · exact absurd (h2 ▸ h1 : @LT.lt Nat _ dx0 dx0) (Nat.lt_irrefl _)) hK' (Fr.keep (h₀ := g') (by assumption)) (by assumption) (by k_asm)
  refine' hret _ [(x0, instObj 145 dx0), (dx0, dictOf [ent w "limit" ?t0 (.int lim u), ent w "known" ?t1 (.ref ?kd), ent w "current" ?t2 (.int 0 ?tcu), ent w "used" ?t3 (.ref ?ul), ent w "retire_prior" ?t4 (.int 0 ?trp), ent w "told" ?t5 (.ref ?td), ent w "to_retire" ?t6 (.ref ?tr), ent w "is_empty" ?t7 (.bool false)] 8),
        (?kd, ?ko), (?td, ?to), (?ul, W.listOf #[.int 0 ?tu] 0), (?tr, W.listOf #[] 0), (?tp, tup [.bytes c tc, tok]), (?tq, tup [.bytes c tc, tok])] _ _
      ⟨⟨x0, dx0, ?kd, ?td, ?ul, ?tr, ?tp, ?tq, ?ko, ?to, ?t0, ?t1, ?t2, ?t3, ?t4, ?t5, ?t6, ?t7, ?tcu, ?tu, ?trp⟩, rfl, ?hk1, ?ht1, ?m1, ?m2, ?ord, rfl⟩ ?hor (by k_asm) (cb_drop mk.2 (sub_app (List.forall_mem_cons.mpr ⟨?ma, List.forall_mem_cons.mpr ⟨?mb, List.forall_mem_cons.mpr ⟨?mc, List.forall_mem_cons.mpr ⟨?md, List.forall_mem_cons.mpr ⟨?me, List.forall_mem_cons.mpr ⟨?mf, List.forall_mem_cons.mpr ⟨?mg, List.forall_mem_cons.mpr ⟨?mh, List.forall_mem_nil _⟩⟩⟩⟩⟩⟩⟩⟩)))
  case ma => k_mem
  case mb => k_mem
  case mc => k_mem
  case md => k_mem
  case me => k_mem
  case mf => k_mem
  case hk1 => assumption
  case ht1 => assumption
  case mg => k_mem
  case mh => k_mem
  case m1 => assumption
  case m2 => assumption
  case ord => (dsimp only; omega)
  case hor =>
    intro z hz q hq
    have h1 : @LT.lt Nat _ z.1 dx0 := lB.out z hz
    simp only [List.mem_cons, List.not_mem_nil, or_false] at hq
    rcases hq with h | h | h | h | h | h | h | h <;> (rw [h]; (try dsimp only); omega)
end
section
theorem change_lit {w : World} {x dx kd ul tr tp tq : Addr} {ko : Obj} {t0 t1 t2 t3 t4 t5 t6 t7 tu tcu : Tok} {lim rp to em : Value} {n n2 : Nat}
    (hkd : ko.IsDictOf (intKind PySem.Challenge.rw_tk0093_01.prog w) [(0, .ref tp), (1, .ref tq)]) (hlo : (kd == sysModules) = false)
    (d1 : @Ne Nat x dx) (d2 : @Ne Nat x kd) (d3 : @Ne Nat x ul) (d4 : @Ne Nat x tr) (d5 : @Ne Nat dx kd) (d6 : @Ne Nat dx ul) (d7 : @Ne Nat dx tr) (d8 : @Ne Nat kd ul) (d9 : @Ne Nat kd tr) (d10 : @Ne Nat ul tr) :
    Does w 20 128 [.ref x] [(x, instObj 145 dx), (dx, dictOf [ent w "limit" t0 lim, ent w "known" t1 (.ref kd), ent w "current" t2 (.int 0 tcu), ent w "used" t3 (.ref ul), ent w "retire_prior" t4 rp, ent w "told" t5 to, ent w "to_retire" t6 (.ref tr), ent w "is_empty" t7 em] 8), (kd, ko), (ul, W.listOf #[.int 0 tu] n), (tr, W.listOf #[] n2)]
      (fun r post => r = .bool true ∧ ∃ (ko' : Obj) (tcu' tv : Tok) (n' n2' : Nat) (tz : Tok), ko'.IsDictOf (intKind PySem.Challenge.rw_tk0093_01.prog w) [(1, .ref tq)] ∧
        post = [(x, instObj 145 dx), (dx, dictOf [ent w "limit" t0 lim, ent w "known" t1 (.ref kd), ent w "current" t2 (.int 1 tcu'), ent w "used" t3 (.ref ul), ent w "retire_prior" t4 rp, ent w "told" t5 to, ent w "to_retire" t6 (.ref tr), ent w "is_empty" t7 em] 8), (kd, ko'), (ul, W.listOf #[.int 0 tu, .int 1 tv] n'), (tr, W.listOf #[.int 0 tz] n2')]) :=
  change_does (rf := ⟨t0, t1, t2, t3, t4, t5, t6, t7, lim, .int 0 tcu, rp, to, .ref tr, em⟩) hkd hlo d1 d2 d3 d4 d5 d6 d7 d8 d9 d10
theorem setTok_lit {w : World} {x dx kd td tp tq : Addr} {ko to : Obj} {t0 t1 t2 t3 t4 t5 t6 t7 : Tok} {lim cu us rp tr em : Value} {c c' : Array UInt8} {tc tc' : Tok} {tk tk' : Value} {TA : Array UInt8} {tt : Tok}
    (hkd : ko.IsDictOf (intKind PySem.Challenge.rw_tk0093_01.prog w) [(0, .ref tp)]) (hlo : (kd == sysModules) = false) (htd : to.IsDictOf (intKind PySem.Challenge.rw_tk0093_01.prog w) [(0, .ref tq)]) (hlt : (td == sysModules) = false)
    (d1 : @Ne Nat x dx) (d2 : @Ne Nat x kd) (d3 : @Ne Nat x td) (d4 : @Ne Nat dx kd) (d5 : @Ne Nat dx td) (d6 : @Ne Nat kd td) (d7 : @Ne Nat kd tp) (d8 : @Ne Nat kd tq) (d9 : @Ne Nat td tp) (d10 : @Ne Nat td tq) :
    Does w 10 76 [.ref x, .bytes TA tt] [(x, instObj 145 dx), (dx, dictOf [ent w "limit" t0 lim, ent w "known" t1 (.ref kd), ent w "current" t2 cu, ent w "used" t3 us, ent w "retire_prior" t4 rp, ent w "told" t5 (.ref td), ent w "to_retire" t6 tr, ent w "is_empty" t7 em] 8), (kd, ko), (td, to), (tp, tup [.bytes c tc, tk]), (tq, tup [.bytes c' tc', tk'])]
      (fun r post => r = .none ∧ ∃ (tp' tq' : Addr) (ko' to' : Obj), ko'.IsDictOf (intKind PySem.Challenge.rw_tk0093_01.prog w) [(0, .ref tp')] ∧ to'.IsDictOf (intKind PySem.Challenge.rw_tk0093_01.prog w) [(0, .ref tq')] ∧
        post = [(x, instObj 145 dx), (dx, dictOf [ent w "limit" t0 lim, ent w "known" t1 (.ref kd), ent w "current" t2 cu, ent w "used" t3 us, ent w "retire_prior" t4 rp, ent w "told" t5 (.ref td), ent w "to_retire" t6 tr, ent w "is_empty" t7 em] 8), (kd, ko'), (td, to'), (tp', tup [.bytes c tc, .bytes TA tt]), (tq', tup [.bytes c' tc', .bytes TA tt])]) :=
  setTok_does (rf := ⟨t0, t1, t2, t3, t4, t5, t6, t7, lim, cu, rp, .ref td, tr, em⟩) hkd hlo htd hlt d1 d2 d3 d4 d5 d6 d7 d8 d9 d10
theorem onNew_lit {w : World} {x dx kd td ul ra tp tq : Addr} {ko to uo ro : Obj} {t0 t1 t2 t3 t4 t5 t6 t7 : Tok} {cu : Value} {c c' c2 : Array UInt8} {tc tc' tc2 tl trp u1 u2 : Tok} {tk tkq tokv : Value}
    (hkd : ko.IsDictOf (intKind PySem.Challenge.rw_tk0093_01.prog w) [(0, .ref tp)]) (hlo : (kd == sysModules) = false) (htd : to.IsDictOf (intKind PySem.Challenge.rw_tk0093_01.prog w) [(0, .ref tq)]) (hlt : (td == sysModules) = false) (hc : c' ≠ c2)
    (d1 : @Ne Nat x dx) (d2 : @Ne Nat x kd) (d3 : @Ne Nat x td) (d4 : @Ne Nat dx kd) (d5 : @Ne Nat dx td) (d6 : @Ne Nat kd td) (d7 : @Ne Nat kd tp) (d8 : @Ne Nat kd tq) (d9 : @Ne Nat td tp) (d10 : @Ne Nat td tq) (d11 : @Ne Nat dx tp) (d12 : @Ne Nat dx tq) (d13 : @Ne Nat dx ul) (d14 : @Ne Nat dx ra) (d15 : @Ne Nat kd ul) (d16 : @Ne Nat kd ra) (d17 : @Ne Nat td ul) (d18 : @Ne Nat td ra) :
    Does w 20 88 [.ref x, .int 1 u1, .int 0 u2, .bytes c2 tc2, tokv] [(x, instObj 145 dx), (dx, dictOf [ent w "limit" t0 (.int 3 tl), ent w "known" t1 (.ref kd), ent w "current" t2 cu, ent w "used" t3 (.ref ul), ent w "retire_prior" t4 (.int 0 trp), ent w "told" t5 (.ref td), ent w "to_retire" t6 (.ref ra), ent w "is_empty" t7 (.bool false)] 8), (kd, ko), (td, to), (tp, tup [.bytes c tc, tk]), (tq, tup [.bytes c' tc', tkq]), (ul, uo), (ra, ro)]
      (fun r post => r = .none ∧ ∃ (tp2 tq2 : Addr) (ko' to' : Obj) (tr' : Tok), ko'.IsDictOf (intKind PySem.Challenge.rw_tk0093_01.prog w) [(0, .ref tp), (1, .ref tp2)] ∧
        post = [(x, instObj 145 dx), (dx, dictOf [ent w "limit" t0 (.int 3 tl), ent w "known" t1 (.ref kd), ent w "current" t2 cu, ent w "used" t3 (.ref ul), ent w "retire_prior" t4 (.int 0 tr'), ent w "told" t5 (.ref td), ent w "to_retire" t6 (.ref ra), ent w "is_empty" t7 (.bool false)] 8), (kd, ko'), (td, to'), (tp, tup [.bytes c tc, tk]), (tq, tup [.bytes c' tc', tkq]), (tp2, tup [.bytes c2 tc2, tokv]), (tq2, tup [.bytes c2 tc2, tokv]), (ul, uo), (ra, ro)] ∧
        (@LT.lt Nat _ x tp2 ∧ @LT.lt Nat _ dx tp2 ∧ @LT.lt Nat _ kd tp2 ∧ @LT.lt Nat _ ul tp2 ∧ @LT.lt Nat _ ra tp2 ∧ @LT.lt Nat _ x tq2 ∧ @LT.lt Nat _ dx tq2 ∧ @LT.lt Nat _ kd tq2 ∧ @LT.lt Nat _ ul tq2 ∧ @LT.lt Nat _ ra tq2)) :=
  onNew_does (rf := ⟨t0, t1, t2, t3, t4, t5, t6, t7, .int 3 tl, cu, .int 0 trp, .ref td, .ref ra, .bool false⟩) hkd hlo htd hlt hc d1 d2 d3 d4 d5 d6 d7 d8 d9 d10 d11 d12 d13 d14 d15 d16 d17 d18
/-- what stood before stands below -/
theorem above9 {news post : List (Addr × Obj)} {q r : Addr × Obj} (h : ∀ z ∈ news, ∀ p ∈ r :: q :: post, @LT.lt Nat _ z.1 p.1) : ∀ z ∈ news, @LT.lt Nat _ z.1 q.1 := fun z hz => h z hz q (List.mem_cons_of_mem _ List.mem_cons_self)
/-- what stands below all the places -/
theorem Split.above {adr : List Addr} {Y : List (Addr × Obj)} {d : Addr} (h : ∀ z ∈ Y, @LT.lt Nat _ z.1 d) (hb : ∀ b ∈ adr, @LE.le Nat _ d b) : Split adr Y Y := by
  induction Y with
  | nil => exact .nil
  | cons q r ih => exact .keep (fun b hb' => Nat.ne_of_lt (Nat.lt_of_lt_of_le (h q (List.mem_cons_self ..)) (hb b hb'))) (ih fun z hz => h z (List.mem_cons_of_mem _ hz))
local macro_rules | `(tactic| tb_start) => `(tactic| first | exact Split.nil | (refine' Split.skip ?a ?b; (case a => k_mem); (case b => tb_start)) | (refine' Split.above ?a ?b; (case a => with_reducible assumption); (case b => (repeat (first | exact List.forall_mem_nil _ | refine List.forall_mem_cons.mpr ⟨by omega, ?_⟩)))) | (refine' Split.keep ?a ?b; (case a => tb_rel); (case b => tb_start)))
set_option maxHeartbeats 80000000 in
theorem hearers_does {w : World} {TA : Array UInt8} {tt : Tok} (hT : TA.size = 16) :
    DoesF w 40 168 [.bytes TA tt] (fun r post => ∃ h : Hs, h.Ok w ∧ r = .ref h.v ∧ post = h.led w TA) := by
  intro p loose mean mg mb dp un gd cn cs a ccd cl outer A₀ base h₀ L m s Q E B F X N T hk hdp hun hret
  have kM := kstMark
  refine wpAny_call ?_
  (first
  | (k_dflt (refine' code_keep ?k1 ?k2 ?k3 ?k4 ?k5 ?kA ?kF ?kK ?k6 ?k7 ?k8 ?k9 ?kB ?_ ?c2 ?c3 ?c4 ?c5; (case kA => exact rfl); (case kF => exact rfl); (case kK => first | exact rfl | assumption); (case k1 => k_asm); (case k2 => k_asm); (case k3 => k_asm); (case k4 => k_asm); (case k5 => k_asm); (case k6 => k_is); (case k7 => k_is); (case k8 => first | k_room | ktr_room); (case k9 => first | exact BindsTo.of_eq rfl | exact binds_K (by k_in) rfl (by k_is) rfl rfl rfl | fail "k_enter: no rule for these arguments"); (case c5 => decide); (case kB => exact locs rfl); (case c2 => exact rfl); (case c3 => exact rfl); (case c4 => exact rfl); k_whole; intro g' L' h' hG' FG' F' N' B' X' T'; (try dsimp only); (try k_lift B'); (try k_fold)))
  | (k_dflt (refine' code_keepC ?k1 ?k2 ?k3 ?k4 ?k5 ?kA ?kF ?kK ?k6 ?k7 ?k8 ?k9 ?kB ?kD ?_ ?c2 ?c3 ?c4; (case kA => exact rfl); (case kF => exact rfl); (case kK => first | exact rfl | assumption); (case k1 => k_asm); (case k2 => k_asm); (case k3 => k_asm); (case k4 => k_asm); (case k5 => k_asm); (case k6 => k_is); (case k7 => k_is); (case k8 => first | k_room | ktr_room); (case k9 => first | exact BindsTo.of_eq rfl | exact binds_K (by k_in) rfl (by k_is) rfl rfl rfl | fail "k_enter: no rule for these arguments"); (case kB => exact rfl); (case kD => decide +kernel); (case c2 => exact rfl); (case c3 => exact rfl); (case c4 => exact rfl); k_whole; intro g' L' h' tk' cells' hG' FG' F' N' Y' B' X' T' l1; (try k_lt l1); k_cells Y'; (try simp only [List.cons_append, List.nil_append] at N'); (try dsimp only); (try k_lift B'); (try k_fold))))
  have hK' := kept_of hG'
  clear hG'
  repeat' (first | (k_unfold; (try dsimp only)) | (k_end; wrow_close) | (with_reducible first | ((with_reducible show wpAny _ _ (call (Value.type "bytes") [Value.int _ _]) _ _ _); (k_dflt ((refine' call_bytesN ?bN0 ?bN1 ?_); (case bN0 => decide); (case bN1 => decide))); (intro _ _)) | ((with_reducible show wpAny _ _ (call (Value.ref _) _) _ _ _); (first | ((with_reducible show wpAny _ _ (call (Value.ref 128) _) _ _ _); k_dflt ((k_here; k_dflt (refine' Does.split (change_lit ?hkdD ?hloD ?d1D ?d2D ?d3D ?d4D ?d5D ?d6D ?d7D ?d8D ?d9D ?d10D) ?k1 ?k2 ?k3 ?k4 ?k5 ?kK ?kd ?ku (List.forall_mem_cons.mpr ⟨?maD, List.forall_mem_cons.mpr ⟨?mbD, List.forall_mem_cons.mpr ⟨?mcD, List.forall_mem_cons.mpr ⟨?mdD, List.forall_mem_cons.mpr ⟨?meD, List.forall_mem_nil _⟩⟩⟩⟩⟩) ?ksp ?_; (case k1 => k_asm); (case k2 => k_asm); (case k3 => k_asm); (case k4 => k_asm); (case k5 => k_asm); (case kK => first | exact rfl | assumption); (case kd => first | decide | ktr_room); (case ku => ktr_units))); (case maD => k_mem); (case mbD => k_mem); (case mcD => k_mem); (case mdD => k_mem); (case meD => k_mem); (case hkdD => assumption); (case hloD => assumption); (case d1D => omega); (case d2D => omega); (case d3D => omega); (case d4D => omega); (case d5D => omega); (case d6D => omega); (case d7D => omega); (case d8D => omega); (case d9D => omega); (case d10D => omega); (case ksp => (simp only [List.map_cons, List.map_nil]; tb_start)); (intro r9 post9 h9 tk9 hR9 F9 N9); (obtain ⟨hr9, ko9, tc9, tv9, n9, n8, tz9, hd9, hp9⟩ := hR9); (subst hr9); (subst hp9); (simp only [List.cons_append, List.nil_append] at N9); (try dsimp only); (try k_fold))) | ((with_reducible show wpAny _ _ (call (Value.ref 88) _) _ _ _); k_dflt ((k_here; k_dflt (refine' Does.split (onNew_lit ?hkdC ?hloC ?htdC ?hltC ?hcC ?d1C ?d2C ?d3C ?d4C ?d5C ?d6C ?d7C ?d8C ?d9C ?d10C ?d11C ?d12C ?d13C ?d14C ?d15C ?d16C ?d17C ?d18C) ?k1 ?k2 ?k3 ?k4 ?k5 ?kK ?kd ?ku (List.forall_mem_cons.mpr ⟨?maC, List.forall_mem_cons.mpr ⟨?mbC, List.forall_mem_cons.mpr ⟨?mcC, List.forall_mem_cons.mpr ⟨?mdC, List.forall_mem_cons.mpr ⟨?meC, List.forall_mem_cons.mpr ⟨?mfC, List.forall_mem_cons.mpr ⟨?mgC, List.forall_mem_cons.mpr ⟨?mhC, List.forall_mem_nil _⟩⟩⟩⟩⟩⟩⟩⟩) ?ksp ?_; (case k1 => k_asm); (case k2 => k_asm); (case k3 => k_asm); (case k4 => k_asm); (case k5 => k_asm); (case kK => first | exact rfl | assumption); (case kd => first | decide | ktr_room); (case ku => ktr_units))); (case maC => k_mem); (case mbC => k_mem); (case mcC => k_mem); (case mdC => k_mem); (case hkdC => assumption); (case htdC => assumption); (case meC => k_mem); (case mfC => k_mem); (case mgC => k_mem); (case mhC => k_mem); (case hloC => assumption); (case hltC => assumption); (case hcC => decide); (case d1C => omega); (case d2C => omega); (case d3C => omega); (case d4C => omega); (case d5C => omega); (case d6C => omega); (case d7C => omega); (case d8C => omega); (case d9C => omega); (case d10C => omega); (case d11C => omega); (case d12C => omega); (case d13C => omega); (case d14C => omega); (case d15C => omega); (case d16C => omega); (case d17C => omega); (case d18C => omega); (case ksp => (simp only [List.map_cons, List.map_nil]; tb_start)); (intro r9 post9 h9 tk9 hR9 F9 N9); (obtain ⟨hr9, tp9, tq9, ko9, to9, tz9, hk9, hp9, lt9⟩ := hR9); (subst hr9); (subst hp9); (simp only [List.cons_append, List.nil_append] at N9); (try dsimp only); (try k_fold))) | ((with_reducible show wpAny _ _ (call (Value.ref 76) _) _ _ _); k_dflt ((k_here; k_dflt (refine' Does.split (setTok_lit ?hkdB ?hloB ?htdB ?hltB ?d1B ?d2B ?d3B ?d4B ?d5B ?d6B ?d7B ?d8B ?d9B ?d10B) ?k1 ?k2 ?k3 ?k4 ?k5 ?kK ?kd ?ku (List.forall_mem_cons.mpr ⟨?maB, List.forall_mem_cons.mpr ⟨?mbB, List.forall_mem_cons.mpr ⟨?mcB, List.forall_mem_cons.mpr ⟨?mdB, List.forall_mem_cons.mpr ⟨?meB, List.forall_mem_cons.mpr ⟨?mfB, List.forall_mem_nil _⟩⟩⟩⟩⟩⟩) ?ksp ?_; (case k1 => k_asm); (case k2 => k_asm); (case k3 => k_asm); (case k4 => k_asm); (case k5 => k_asm); (case kK => first | exact rfl | assumption); (case kd => first | decide | ktr_room); (case ku => ktr_units))); (case maB => k_mem); (case mbB => k_mem); (case mcB => k_mem); (case mdB => k_mem); (case hkdB => assumption); (case htdB => assumption); (case meB => k_mem); (case mfB => k_mem); (case hloB => assumption); (case hltB => assumption); (case d1B => omega); (case d2B => omega); (case d3B => omega); (case d4B => omega); (case d5B => omega); (case d6B => omega); (case d7B => omega); (case d8B => omega); (case d9B => omega); (case d10B => omega); (case ksp => (simp only [List.map_cons, List.map_nil]; tb_start)); (intro r9 post9 h9 tk9 hR9 F9 N9); (obtain ⟨hr9, tp9, tq9, ko9, to9, hk9, ht9, hp9⟩ := hR9); (subst hr9); (subst hp9); (simp only [List.cons_append, List.nil_append] at N9); (try dsimp only); (try k_fold))) | ((with_reducible show wpAny _ _ (call (Value.ref 145) _) _ _ _); k_dflt ((k_here; k_dflt (refine' DoesO.use (mkRem_does ?hcA ?hc2A) ?k1 ?k2 ?k3 ?k4 ?k5 ?kK ?kd ?ku ?_; (case k1 => k_asm); (case k2 => k_asm); (case k3 => k_asm); (case k4 => k_asm); (case k5 => k_asm); (case kK => first | exact rfl | assumption); (case kd => first | decide | ktr_room); (case ku => ktr_units))); (case hcA => decide); (case hc2A => decide); (intro r9 post9 h9 tk9 hR9 ord9 F9 N9); (obtain ⟨e9, hr9, hk9, ht9, m8, m9, lt9, hp9⟩ := hR9); (subst hr9); (subst hp9); (have l9 := above9 ord9); (clear ord9); (simp only [List.cons_append, List.nil_append] at N9); (try dsimp only); (try k_fold))))) | (k_here; (with_reducible refine' callWith_K0 ?k1 ?k2 ?_); (case k1 => ((rename Fr _ _ _ _ => lF'); exact Frag.In.keeps (by with_reducible assumption) (Fr.keep lF'))); (case k2 => k_dflt k_is); (dsimp only [List.cons_append, List.nil_append, List.append_nil])) | ((with_reducible show wpAny _ _ (exec (Stmt.If _ _ _ _) _) _ _ _); (k_here; with_reducible refine wpAny_If ?_)) | ((with_reducible show wpAny _ _ (execs [] _) _ _ _); (k_here; (with_reducible refine gen_toks ?_); intro _; (with_reducible refine wpAny_execs_nil ?_))) | ((with_reducible show wpAny _ _ (execs (_ :: _) _) _ _ _); (k_here; (with_reducible refine gen_toks ?_); intro _; (with_reducible refine wpAny_execs_cons ?_); (try k_fold)))) | walk1 | (dsimp only) | (leave1; walk_say "STEP leave1"; try dsimp only) | fail "no step")
  refine' hret _ [(?v, tup [.ref ?a, .ref ?b]), (?a, W.listOf #[.ref ?xf, .ref ?xl] ?na), (?b, W.listOf #[.ref ?xn, .ref ?xz] ?nb), (?xf, instObj 145 ?dxf), (?dxf, dictOf [ent w "limit" ?t0f ?limf, ent w "known" ?t1f (.ref ?kdf), ent w "current" ?t2f ?cuf, ent w "used" ?t3f (.ref ?ulf), ent w "retire_prior" ?t4f ?rpf, ent w "told" ?t5f ?tof, ent w "to_retire" ?t6f ?trf, ent w "is_empty" ?t7f ?emf] 8), (?kdf, ?kof), (?ulf, W.listOf #[.int 0 ?tuf] ?nf), (?tpf, tup [.bytes ?cf ?tcf, .bytes TA ?ttf]), (?xl, instObj 145 ?dxl), (?dxl, dictOf [ent w "limit" ?t0l ?liml, ent w "known" ?t1l (.ref ?kdl), ent w "current" ?t2l ?cul, ent w "used" ?t3l (.ref ?ull), ent w "retire_prior" ?t4l ?rpl, ent w "told" ?t5l ?tol, ent w "to_retire" ?t6l ?trl, ent w "is_empty" ?t7l ?eml] 8), (?kdl, ?kol), (?ull, W.listOf #[.int 0 ?tul, .int 1 ?tvl] ?nl), (?tpl, tup [.bytes ?cl ?tcl, .bytes TA ?ttl]), (?xn, instObj 145 ?dxn), (?dxn, dictOf [ent w "limit" ?t0n ?limn, ent w "known" ?t1n (.ref ?kdn), ent w "current" ?t2n ?cun, ent w "used" ?t3n (.ref ?uln), ent w "retire_prior" ?t4n ?rpn, ent w "told" ?t5n ?ton, ent w "to_retire" ?t6n ?trn, ent w "is_empty" ?t7n ?emn] 8), (?kdn, ?kon), (?uln, W.listOf #[.int 0 ?tun] ?nn), (?tpn, tup [.bytes ?cn ?tcn, .none]), (?xz, instObj 145 ?dxz), (?dxz, dictOf [ent w "limit" ?t0z ?limz, ent w "known" ?t1z (.ref ?kdz), ent w "current" ?t2z ?cuz, ent w "used" ?t3z (.ref ?ulz), ent w "retire_prior" ?t4z ?rpz, ent w "told" ?t5z ?toz, ent w "to_retire" ?t6z ?trz, ent w "is_empty" ?t7z ?emz] 8), (?kdz, ?koz), (?ulz, W.listOf #[.int 0 ?tuz, .int 1 ?tvz] ?nz), (?tpz, tup [.bytes ?cz ?tcz, .bytes zeros ?ttz])] _ _ ⟨⟨?v, ?a, ?b, ?na, ?nb, ⟨?xf, ?dxf, ?kdf, ?ulf, ?tpf, ?tpf, ?kof, ⟨?t0f, ?t1f, ?t2f, ?t3f, ?t4f, ?t5f, ?t6f, ?t7f, ?limf, ?cuf, ?rpf, ?tof, ?trf, ?emf⟩, ?tuf, ?tuf, ?tcf, ?ttf, ?nf, ?cf⟩, ⟨?xl, ?dxl, ?kdl, ?ull, ?tpl, ?tpl, ?kol, ⟨?t0l, ?t1l, ?t2l, ?t3l, ?t4l, ?t5l, ?t6l, ?t7l, ?liml, ?cul, ?rpl, ?tol, ?trl, ?eml⟩, ?tul, ?tvl, ?tcl, ?ttl, ?nl, ?cl⟩, ⟨?xn, ?dxn, ?kdn, ?uln, ?tpn, ?tqn, ?kon, ⟨?t0n, ?t1n, ?t2n, ?t3n, ?t4n, ?t5n, ?t6n, ?t7n, ?limn, ?cun, ?rpn, ?ton, ?trn, ?emn⟩, ?tun, ?tun, ?tcn, ?tun, ?nn, ?cn⟩, ⟨?xz, ?dxz, ?kdz, ?ulz, ?tpz, ?tpz, ?koz, ⟨?t0z, ?t1z, ?t2z, ?t3z, ?t4z, ?t5z, ?t6z, ?t7z, ?limz, ?cuz, ?rpz, ?toz, ?trz, ?emz⟩, ?tuz, ?tvz, ?tcz, ?ttz, ?nz, ?cz⟩⟩, ⟨?hf, ?hl, ?hn, ?hz, ?kf, ?kl, ?kn, ?kz⟩, rfl, rfl⟩ (fresh_of hK' (cb_drop ?N1 (List.forall_mem_cons.mpr ⟨?mv0, List.forall_mem_cons.mpr ⟨?mva, List.forall_mem_cons.mpr ⟨?mvb, List.forall_mem_cons.mpr ⟨?mf1, List.forall_mem_cons.mpr ⟨?mf2, List.forall_mem_cons.mpr ⟨?mf3, List.forall_mem_cons.mpr ⟨?mf4, List.forall_mem_cons.mpr ⟨?mf5, List.forall_mem_cons.mpr ⟨?ml1, List.forall_mem_cons.mpr ⟨?ml2, List.forall_mem_cons.mpr ⟨?ml3, List.forall_mem_cons.mpr ⟨?ml4, List.forall_mem_cons.mpr ⟨?ml5, List.forall_mem_cons.mpr ⟨?mn1, List.forall_mem_cons.mpr ⟨?mn2, List.forall_mem_cons.mpr ⟨?mn3, List.forall_mem_cons.mpr ⟨?mn4, List.forall_mem_cons.mpr ⟨?mn5, List.forall_mem_cons.mpr ⟨?mz1, List.forall_mem_cons.mpr ⟨?mz2, List.forall_mem_cons.mpr ⟨?mz3, List.forall_mem_cons.mpr ⟨?mz4, List.forall_mem_cons.mpr ⟨?mz5, List.forall_mem_nil _⟩⟩⟩⟩⟩⟩⟩⟩⟩⟩⟩⟩⟩⟩⟩⟩⟩⟩⟩⟩⟩⟩⟩))) (by exact Kept.trans (by assumption) (Fr.keep (by assumption))) (by k_asm) (cb_drop (by k_asm) (List.forall_mem_cons.mpr ⟨?mv0, List.forall_mem_cons.mpr ⟨?mva, List.forall_mem_cons.mpr ⟨?mvb, List.forall_mem_cons.mpr ⟨?mf1, List.forall_mem_cons.mpr ⟨?mf2, List.forall_mem_cons.mpr ⟨?mf3, List.forall_mem_cons.mpr ⟨?mf4, List.forall_mem_cons.mpr ⟨?mf5, List.forall_mem_cons.mpr ⟨?ml1, List.forall_mem_cons.mpr ⟨?ml2, List.forall_mem_cons.mpr ⟨?ml3, List.forall_mem_cons.mpr ⟨?ml4, List.forall_mem_cons.mpr ⟨?ml5, List.forall_mem_cons.mpr ⟨?mn1, List.forall_mem_cons.mpr ⟨?mn2, List.forall_mem_cons.mpr ⟨?mn3, List.forall_mem_cons.mpr ⟨?mn4, List.forall_mem_cons.mpr ⟨?mn5, List.forall_mem_cons.mpr ⟨?mz1, List.forall_mem_cons.mpr ⟨?mz2, List.forall_mem_cons.mpr ⟨?mz3, List.forall_mem_cons.mpr ⟨?mz4, List.forall_mem_cons.mpr ⟨?mz5, List.forall_mem_nil _⟩⟩⟩⟩⟩⟩⟩⟩⟩⟩⟩⟩⟩⟩⟩⟩⟩⟩⟩⟩⟩⟩⟩))
  case N1 => assumption
  case mv0 => k_mem
  case mva => k_mem
  case mvb => k_mem
  case mf1 => k_mem
  case mf2 => k_mem
  case mf3 => k_mem
  case hf => assumption
  case kf => assumption
  case mf4 => k_mem
  case mf5 => k_mem
  case ml1 => k_mem
  case ml2 => k_mem
  case ml3 => k_mem
  case hl => assumption
  case kl => assumption
  case ml4 => k_mem
  case ml5 => k_mem
  case mn1 => k_mem
  case mn2 => k_mem
  case mn3 => k_mem
  case hn => assumption
  case kn => assumption
  case mn4 => k_mem
  case mn5 => k_mem
  case mz1 => k_mem
  case mz2 => k_mem
  case mz3 => k_mem
  case hz => assumption
  case kz => assumption
  case mz4 => k_mem
  case mz5 => k_mem
end
section
theorem range_get {β : Type} (g : Int → β) {k : Nat} (hk : k < 16) : ((rangeKs 0 ((16 : Int) - 0).toNat).map g)[k]? = some (g (k : Int)) := by
  unfold rangeKs
  rw [List.getElem?_map, List.getElem?_map, List.getElem?_range (by show k < 16; exact hk)]
  simp only [Option.map_some, Int.zero_add]
theorem range_len {β : Type} (g : Int → β) : ((rangeKs 0 ((16 : Int) - 0).toNat).map g).length = 16 := by
  rw [List.length_map, rangeKs_length]
  rfl
theorem tokL_get {seed place more : Int} {k : Nat} (hk : k < 16) :
    (tokL seed place more)[k]? = some (if place.toNat = k then ((seed * (0 + place + 3) + 17 * (0 + place)).fmod 256 + more).fmod 256 else (seed * ((k : Int) + 3) + 17 * (k : Int)).fmod 256) := by
  unfold tokL
  rw [List.getElem?_set, range_len]
  by_cases h : place.toNat = k
  · rw [if_pos h, if_pos h, if_pos (by omega)]
  · rw [if_neg h, if_neg h, range_get _ hk]
theorem byte_inj {xs ys : List Int} (hx : KBa.In xs) (hy : KBa.In ys) (h : byteArr xs = byteArr ys) : xs = ys := by
  rw [← KBa.ints_make hx, h, KBa.ints_make hy]
theorem tok_ne {seed place more : Int} (h2 : 0 ≤ place) (h3 : place < 16) (h4 : 1 ≤ more) (h5 : more < 256) : byteArr (tokL seed 0 0) ≠ byteArr (tokL seed place more) := by
  intro h
  have e := byte_inj (tokL_in _ _ _) (tokL_in _ _ _) h
  have e2 := congrArg (fun l : List Int => l[place.toNat]?) e
  try dsimp only at e2
  rw [tokL_get (by omega), tokL_get (by omega), if_pos rfl] at e2
  have e3 := Option.some.inj e2
  have hp : ((place.toNat : Nat) : Int) = place := by omega
  rw [hp] at e3
  have z0 : (0 : Int) + place = place := by omega
  rw [z0] at e3
  generalize hb : (seed * (place + 3) + 17 * place).fmod 256 = b at e3
  have b0 : 0 ≤ b ∧ b < 256 := by rw [← hb]; exact ⟨Int.fmod_nonneg_of_pos _ (by decide), Int.fmod_lt_of_pos _ (by decide)⟩
  rw [Int.fmod_eq_emod_of_nonneg (b + more) (by decide)] at e3
  by_cases hz : (0 : Int).toNat = place.toNat
  · rw [if_pos hz] at e3
    have p0 : place = 0 := by simp at hz; omega
    subst p0
    have z1 : (0 : Int) + 0 = 0 := by omega
    have z2 : ((seed * (0 + 3) + 17 * 0).fmod 256 + 0).fmod 256 = b := by
      rw [hb, Int.fmod_eq_emod_of_nonneg _ (by decide)]
      omega
    rw [z1, z2] at e3
    omega
  · rw [if_neg hz] at e3
    omega
theorem tok_zeros {seed place more : Int} : zeros ≠ byteArr (tokL seed place more) := by
  intro h
  have hz : zeros = byteArr (List.replicate 16 0) := by decide +kernel
  rw [hz] at h
  have e := byte_inj (fun n hn => by rw [(List.mem_replicate.mp hn).2]; exact ⟨by decide, by decide⟩) (tokL_in _ _ _) h
  by_cases hp : place.toNat = 1
  · have e2 := congrArg (fun l : List Int => l[3]?) e
    try dsimp only at e2
    rw [tokL_get (by omega), if_neg (by omega)] at e2
    have e3 : (0 : Int) = (seed * (((3 : Nat) : Int) + 3) + 17 * ((3 : Nat) : Int)).fmod 256 := Option.some.inj e2
    rw [Int.fmod_eq_emod_of_nonneg _ (by decide)] at e3
    omega
  · have e2 := congrArg (fun l : List Int => l[1]?) e
    try dsimp only at e2
    rw [tokL_get (by omega), if_neg hp] at e2
    have e3 : (0 : Int) = (seed * (((1 : Nat) : Int) + 3) + 17 * ((1 : Nat) : Int)).fmod 256 := Option.some.inj e2
    rw [Int.fmod_eq_emod_of_nonneg _ (by decide)] at e3
    omega
/-- the last octet tells two arrays apart -/
theorem first_tail {b c T : Array UInt8} {x : Int} (hx : x = (KBw.bInts T).getD 15 0) (hc : c = byteArr [(x + 1).fmod 256]) (hb : 15 ≤ b.size) :
    T ≠ KBy.picked (b ++ c) (some (((b ++ c).size : Int) - 16)) none := by
  intro h
  have hs : (b ++ c).size = b.size + 1 := by rw [Array.size_append, hc]; rfl
  have e := congrArg (fun a : Array UInt8 => a.toList[15]?) h
  try dsimp only at e
  rw [pk_lo (k := b.size - 15) (by rw [hs]; omega) (by rw [hs]; omega), List.getElem?_drop, Array.toList_append, List.getElem?_append_right (by rw [Array.length_toList]; omega)] at e
  have hi : b.size - 15 + 15 - b.toList.length = 0 := by rw [Array.length_toList]; omega
  rw [hi, hc, byte_list1] at e
  have hx2 : x = ((T.toList.getD 15 0).toNat : Int) := by rw [hx]; exact (KBw.getD_ints T.toList 15).symm
  rw [List.getD_eq_getElem?_getD, e] at hx2
  have e4 : x = (((x + 1).fmod 256).toNat.toUInt8.toNat : Int) := hx2
  rw [Int.fmod_eq_emod_of_nonneg _ (by decide)] at e4
  have e5 : (((x + 1) % 256).toNat.toUInt8.toNat : Int) = (x + 1) % 256 := by
    have : ((x + 1) % 256).toNat < 256 := by omega
    rw [Nat.toUInt8, UInt8.toNat_ofNat']
    omega
  omega
theorem short_tail {b TA : Array UInt8} (h1 : 21 ≤ b.size) (h : TA = KBy.picked b (some ((b.size : Int) - 16)) none) :
    (KBy.picked b (some ((b.size : Int) - 21)) none).size = 21 ∧ (KBy.picked (KBy.picked b (some ((b.size : Int) - 21)) none) (some 1) none).size = 20 ∧
      TA = KBy.picked (KBy.picked b (some ((b.size : Int) - 21)) none) (some (((KBy.picked b (some ((b.size : Int) - 21)) none).size : Int) - 16)) none := by
  have e1 : (KBy.picked b (some ((b.size : Int) - 21)) none).size = 21 := by rw [lo_size (k := b.size - 21) (by omega) (by omega)]; omega
  refine ⟨e1, by rw [lo_size (i := 1) (k := 1) (by decide) (by omega), e1], ?_⟩
  rw [h]
  apply arr_of_list
  rw [pk_lo (k := b.size - 16) (by omega) (by omega), pk_lo (k := 5) (by rw [e1]; rfl) (by rw [e1]; omega), pk_lo (k := b.size - 21) (by omega) (by omega), List.drop_drop]
  congr 1
  omega
end
section
theorem heard2_does {w : World} {o q : Hs} {TA UA fil : Array UInt8} {t : Tok} {due : Int} {d : Nat} (ho : o.Ok w) (hq : q.Ok w) (hd : due = (d : Int)) (h1 : 21 ≤ d) (h2 : d ≤ 42) (ht : TA.size = 16) (hf : fil.size = 42) (hU : UA ≠ TA) (hZ : zeros ≠ TA) :
    Does w 20 180 [.bytes (resArr due TA fil) t, .ref o.v, .ref q.v] (o.led w TA ++ q.led w UA) (fun r post => r = .bool true ∧ ∀ z ∈ o.led w TA ++ q.led w UA, z ∈ post) := by
  have hs := res_size (tok := TA) (fil := fil) hd h1 (by omega) ht
  have hv := (res_tail (tok := TA) (fil := fil) (i := (((resArr due TA fil).size : Int) - 16)) hd (by rw [hs]; omega) h1 (by omega) ht).symm
  have hs21 : 21 ≤ (resArr due TA fil).size := by omega
  obtain ⟨z1, z2, hv2⟩ := short_tail hs21 hv
  exact heard_does ho hq hs21 (by omega) hv hv2 (fun e => hU (e.trans hv.symm)) (fun e => hZ (e.trans hv.symm)) z1 z2
end
section
/-- the token that an end holds before a turn -/
def TokIs (tk : Value) (T : Array UInt8) (a : Int) (i : Nat) : Prop := tk = .none ∨ ((∃ t, tk = .bytes T t) ∧ a ≤ (i : Int))
/-- the ledger's tail: both ends and those that hear -/
def YS (w : World) (x0 x1 : Addr) (G : List (Addr × Obj)) (as : List Addr) (T0 T1 : Array UInt8) (a b : Int) (i : Nat) (Y : List (Addr × Obj)) : Prop :=
  ∃ E0 E1 tk0 tk1, Y = E0 ++ (E1 ++ G) ∧ IsEnd w x0 tk0 E0 ∧ IsEnd w x1 tk1 E1 ∧ TokIs tk0 T1 a i ∧ TokIs tk1 T0 b i ∧
    (∀ c ∈ as, ∀ z ∈ E0, @Ne Nat c z.1) ∧ (∀ c ∈ as, ∀ z ∈ E1, @Ne Nat c z.1) ∧ (∀ c ∈ as, ∀ z ∈ G, @Ne Nat c z.1) ∧ (∀ q ∈ E1 ++ G, ∀ z ∈ E0, @Ne Nat q.1 z.1) ∧ ∀ q ∈ E0 ++ G, ∀ z ∈ E1, @Ne Nat q.1 z.1
/-- the end whose turn it is -/
def OwnIs (w : World) (x : Addr) (T : Array UInt8) (a : Int) (i : Nat) (Y : List (Addr × Obj)) : Prop :=
  ∃ E tk, IsEnd w x tk E ∧ (∀ q ∈ E, q ∈ Y) ∧ ((a ≤ (i : Int) ∧ ∃ t, tk = .bytes T t) ∨ ((i : Int) < a ∧ tk = .none))
section
variable {w : World} {x0 x1 : Addr} {G Y lits : List (Addr × Obj)} {as : List Addr} {T0 T1 : Array UInt8} {a b : Int} {i : Nat}
theorem YS.apart (hY : YS w x0 x1 G as T0 T1 a b i Y) {c : Addr} (hc : c ∈ as) : ∀ z ∈ Y, @Ne Nat z.1 c := by
  obtain ⟨E0, E1, tk0, tk1, rfl, _, _, _, _, a0, a1, a2, _, _⟩ := hY
  intro z hz
  rcases List.mem_append.mp hz with h | h
  · exact Ne.symm (a0 c hc z h)
  · rcases List.mem_append.mp h with h | h
    · exact Ne.symm (a1 c hc z h)
    · exact Ne.symm (a2 c hc z h)
theorem YS.withI (hY : YS w x0 x1 G as T0 T1 a b i Y) {I : Addr} (hI : ∀ z ∈ Y, @Ne Nat z.1 I) : YS w x0 x1 G (I :: as) T0 T1 a b i Y := by
  obtain ⟨E0, E1, tk0, tk1, rfl, e0, e1, k0, k1, a0, a1, a2, b0, b1⟩ := hY
  refine ⟨E0, E1, tk0, tk1, rfl, e0, e1, k0, k1, ?_, ?_, ?_, b0, b1⟩
  · exact List.forall_mem_cons.mpr ⟨fun z hz => Ne.symm (hI z (List.mem_append_left _ hz)), a0⟩
  · exact List.forall_mem_cons.mpr ⟨fun z hz => Ne.symm (hI z (List.mem_append_right _ (List.mem_append_left _ hz))), a1⟩
  · exact List.forall_mem_cons.mpr ⟨fun z hz => Ne.symm (hI z (List.mem_append_right _ (List.mem_append_right _ hz))), a2⟩
theorem TokIs.next {tk : Value} {T : Array UInt8} (h : TokIs tk T a i) : TokIs tk T a (i + 1) := by
  rcases h with h | ⟨h, h2⟩
  · exact .inl h
  · exact .inr ⟨h, by omega⟩
theorem YS.next (hY : YS w x0 x1 G (I :: as) T0 T1 a b i Y) : YS w x0 x1 G as T0 T1 a b (i + 1) Y := by
  obtain ⟨E0, E1, tk0, tk1, rfl, e0, e1, k0, k1, a0, a1, a2, b0, b1⟩ := hY
  exact ⟨E0, E1, tk0, tk1, rfl, e0, e1, k0.next, k1.next, (List.forall_mem_cons.mp a0).2, (List.forall_mem_cons.mp a1).2, (List.forall_mem_cons.mp a2).2, b0, b1⟩
theorem YS.keep0 (hY : YS w x0 x1 G as T0 T1 a b i Y) (h : (i : Int) < a) : OwnIs w x0 T1 a i Y := by
  obtain ⟨E0, E1, tk0, tk1, rfl, e0, e1, k0, k1, _⟩ := hY
  refine ⟨E0, tk0, e0, fun q hq => List.mem_append_left _ hq, .inr ⟨h, ?_⟩⟩
  rcases k0 with h0 | ⟨_, h0⟩
  · exact h0
  · omega
theorem YS.keep1 (hY : YS w x0 x1 G as T0 T1 a b i Y) (h : (i : Int) < b) : OwnIs w x1 T0 b i Y := by
  obtain ⟨E0, E1, tk0, tk1, rfl, e0, e1, k0, k1, _⟩ := hY
  refine ⟨E1, tk1, e1, fun q hq => List.mem_append_right _ (List.mem_append_left _ hq), .inr ⟨h, ?_⟩⟩
  rcases k1 with h0 | ⟨_, h0⟩
  · exact h0
  · omega
theorem lits_ne {E : List (Addr × Obj)} (has : lits.map (·.1) = as) (h : ∀ c ∈ as, ∀ z ∈ E, @Ne Nat c z.1) : ∀ q ∈ lits, ∀ z ∈ E, @Ne Nat q.1 z.1 := fun q hq z hz => h q.1 (has ▸ List.mem_map_of_mem hq) z hz
theorem ne_lits {E : List (Addr × Obj)} (has : lits.map (·.1) = as) (h : ∀ q ∈ lits, ∀ z ∈ E, @Ne Nat q.1 z.1) : ∀ c ∈ as, ∀ z ∈ E, @Ne Nat c z.1 := fun c hc z hz => by
  rw [← has] at hc
  obtain ⟨q, hq, rfl⟩ := List.mem_map.mp hc
  exact h q hq z hz
variable {n : Nat} {p : Program} {loose : List Str} {mean : ExcName → Option Value} {mg mb : Str → Option Value} {dp un : Nat} {gd : Option (List Code)} {cn : Str} {cs : Scope} {ad : Addr} {ccd : Value} {cl : List (Str × Addr)} {outer : List Env} {A₀ : Around} {base h₀ : Heap} {L : Addr} {m : Str → Option Value} {s : Shared} {Q E : Value → Shared → Prop} {tt : Tok}
theorem YS.set0 (hY : YS w x0 x1 G as T0 T1 a b i Y) (has : lits.map (·.1) = as) (ha : a ≤ (i : Int)) (B : Below A₀ base outer h₀) (F : Fr h₀ L s.heap m) (X : (Mine.hd.heap_39 w.params).In h₀) (N : News h₀ L s.heap (lits ++ Y)) (T : Top p loose mean mg mb h₀) (hk : cs.kind = .function) (hdp : dp + 10 < recursionLimit) (hun : un + 10 * 10 < cLine)
    (hret : ∀ h' tk' Y', YS w x0 x1 G as T0 T1 a b i Y' → OwnIs w x0 T1 a i Y' → Fr h₀ L h' m → News h₀ L h' (lits ++ Y') → Q .none { s with heap := h', toks := tk' }) :
    wpAny (model PySem.Challenge.rw_tk0093_01.prog w) (ktrTop dp un gd cn cs L ad ccd cl outer) (call (.ref 76) [.ref x0, .bytes T1 tt]) Q E s := by
  obtain ⟨E0, E1, tk0, tk1, rfl, e0, e1, k0, k1, a0, a1, a2, b0, b1⟩ := hY
  refine DoesG.block (P := []) (setTok_end e0) B F X N T hk hdp hun (fun q hq => ?_) fun r post h' tk' hR hoff F' N' => ?_
  · rcases List.mem_append.mp hq with h | h
    · exact lits_ne has a0 q h
    · exact b0 q h
  · obtain ⟨rfl, hE⟩ := hR
    refine hret h' tk' (post ++ (E1 ++ G)) ⟨post, E1, _, tk1, rfl, hE, e1, .inr ⟨⟨_, rfl⟩, ha⟩, k1, ne_lits has fun q hq => hoff q (List.mem_append_left _ hq), a1, a2, fun q hq => hoff q (List.mem_append_right _ hq), fun q hq z hz => ?_⟩ ⟨post, _, hE, fun q hq => List.mem_append_left _ hq, .inl ⟨ha, _, rfl⟩⟩ F' N'
    rcases List.mem_append.mp hq with h | h
    · exact Ne.symm (hoff z (List.mem_append_right _ (List.mem_append_right _ (List.mem_append_left _ hz))) q h)
    · exact b1 q (List.mem_append_right _ h) z hz
theorem YS.set1 (hY : YS w x0 x1 G as T0 T1 a b i Y) (has : lits.map (·.1) = as) (ha : b ≤ (i : Int)) (B : Below A₀ base outer h₀) (F : Fr h₀ L s.heap m) (X : (Mine.hd.heap_39 w.params).In h₀) (N : News h₀ L s.heap (lits ++ Y)) (T : Top p loose mean mg mb h₀) (hk : cs.kind = .function) (hdp : dp + 10 < recursionLimit) (hun : un + 10 * 10 < cLine)
    (hret : ∀ h' tk' Y', YS w x0 x1 G as T0 T1 a b i Y' → OwnIs w x1 T0 b i Y' → Fr h₀ L h' m → News h₀ L h' (lits ++ Y') → Q .none { s with heap := h', toks := tk' }) :
    wpAny (model PySem.Challenge.rw_tk0093_01.prog w) (ktrTop dp un gd cn cs L ad ccd cl outer) (call (.ref 76) [.ref x1, .bytes T0 tt]) Q E s := by
  obtain ⟨E0, E1, tk0, tk1, rfl, e0, e1, k0, k1, a0, a1, a2, b0, b1⟩ := hY
  refine DoesG.block (P := E0) (setTok_end e1) B F X N T hk hdp hun (fun q hq => ?_) fun r post h' tk' hR hoff F' N' => ?_
  · rcases List.mem_append.mp hq with h | h
    · exact lits_ne has a1 q h
    · exact b1 q h
  · obtain ⟨rfl, hE⟩ := hR
    refine hret h' tk' (E0 ++ (post ++ G)) ⟨E0, post, tk0, _, rfl, e0, hE, k0, .inr ⟨⟨_, rfl⟩, ha⟩, a0, ne_lits has fun q hq => hoff q (List.mem_append_left _ hq), a2, fun q hq z hz => ?_, fun q hq => hoff q (List.mem_append_right _ hq)⟩ ⟨post, _, hE, fun q hq => List.mem_append_right _ (List.mem_append_left _ hq), .inl ⟨ha, _, rfl⟩⟩ F' N'
    rcases List.mem_append.mp hq with h | h
    · exact Ne.symm (hoff z (List.mem_append_right _ (List.mem_append_left _ hz)) q h)
    · exact b0 q (List.mem_append_right _ h) z hz
end
/-- what stands in the ledger's tail is not looked at -/
theorem Split.off {adr : List Addr} {Y : List (Addr × Obj)} (h : ∀ b ∈ adr, ∀ z ∈ Y, @Ne Nat z.1 b) : Split adr Y Y := by
  induction Y with
  | nil => exact .nil
  | cons q r ih => exact .keep (fun b hb => h b hb q (List.mem_cons_self ..)) (ih fun b hb z hz => h b hb z (List.mem_cons_of_mem _ hz))
/-- the datagram before a turn -/
def DgIs (T0 T1 : Array UInt8) (sz D : Int) (i : Nat) (dg : Array UInt8) : Prop :=
  (i = 0 ∧ (dg.size : Int) = sz ∧ T1 ≠ KBy.picked dg (some ((dg.size : Int) - 16)) none) ∨
  (1 ≤ i ∧ (dg.size : Int) = D - ((i : Int) - 1) ∧ 21 ≤ dg.size ∧ KBy.picked dg (some ((dg.size : Int) - 16)) none = if i % 2 = 1 then T0 else T1)
/-- whether the end sees a reset -/
theorem own_reset {w : World} {x : Addr} {T0 T1 dg : Array UInt8} {sz D a : Int} {i : Nat} {Y : List (Addr × Obj)} (hO : OwnIs w x (if i % 2 = 1 then T0 else T1) a i Y) (hd : DgIs T0 T1 sz D i dg) (hb : dg.size ≤ 1000) :
    ∃ E v, (∀ td : Tok, Does w 10 142 [.ref x, .bytes dg td] E (fun r post => r = .bool v ∧ ∀ q ∈ E, q ∈ post)) ∧ (∀ q ∈ E, q ∈ Y) ∧ (v = true → 1 ≤ i ∧ a ≤ (i : Int)) ∧ (v = false → i = 0 ∨ (i : Int) < a) := by
  obtain ⟨E, tk, hE, hEY, hc⟩ := hO
  rcases hc with ⟨ha, t, rfl⟩ | ⟨ha, rfl⟩
  · rcases hd with ⟨h0, h1, h2⟩ | ⟨h0, h1, h2, h3⟩
    · subst h0
      exact ⟨E, false, fun _ => isReset_end hE hb (fun _ => rfl) (fun _ => Cmp.other (by simpa using h2)), hEY, (fun h => by cases h), fun _ => .inl rfl⟩
    · exact ⟨E, true, fun _ => isReset_end hE hb (fun h => by omega) (fun _ => Cmp.same h3.symm), hEY, fun _ => ⟨h0, ha⟩, (fun h => by cases h)⟩
  · exact ⟨E, false, fun _ => isReset_end hE hb (fun _ => rfl) (fun _ => Cmp.none), hEY, (fun h => by cases h), fun _ => .inr ha⟩
/-- the law's names within its loop -/
def lawM (m₀ : Str → Option Value) (om od ou of ol os ot : Option Value) : Str → Option Value := fun y =>
  if y = Str.ofString "many" then om else if y = Str.ofString "datagram" then od else if y = Str.ofString "due" then ou else if y = Str.ofString "found" then of else if y = Str.ofString "filler" then ol else if y = Str.ofString "side" then os else if y = Str.ofString "step" then ot else m₀ y
end
section
section
variable {m₀ : Str → Option Value} {om od ou of ol os ot ou' of' ol' os' ot' : Option Value}
theorem lawM_brk1 : (fun y => if y = Str.ofString "side" then os else if y = Str.ofString "step" then ot else lawM m₀ om od ou of ol os' ot' y) = lawM m₀ om od ou of ol os ot := by
  funext y
  unfold lawM
  by_cases h0 : y = Str.ofString "side"
  · subst h0
    rfl
  · simp only [if_neg h0]
    by_cases h1 : y = Str.ofString "step"
    · subst h1
      rfl
    · simp only [if_neg h1]
theorem lawM_brk2 : (fun y => if y = Str.ofString "found" then of else if y = Str.ofString "due" then ou else if y = Str.ofString "filler" then ol else if y = Str.ofString "side" then os else if y = Str.ofString "step" then ot else lawM m₀ om od ou' of' ol' os' ot' y) = lawM m₀ om od ou of ol os ot := by
  funext y
  unfold lawM
  by_cases h2 : y = Str.ofString "due"
  · subst h2
    rfl
  · by_cases h3 : y = Str.ofString "found"
    · subst h3
      rfl
    · by_cases h4 : y = Str.ofString "filler"
      · subst h4
        rfl
      · by_cases h0 : y = Str.ofString "side"
        · subst h0
          rfl
        · by_cases h1 : y = Str.ofString "step"
          · subst h1
            rfl
          · simp only [if_neg h0, if_neg h1, if_neg h2, if_neg h3, if_neg h4]
theorem lawM_two {om' od' : Option Value} : (fun y => if y = Str.ofString "datagram" then od else if y = Str.ofString "many" then om else lawM m₀ om' od' ou of ol os ot y) = lawM m₀ om od ou of ol os ot := by
  funext y
  unfold lawM
  by_cases h2 : y = Str.ofString "datagram"
  · subst h2
    rfl
  · by_cases h3 : y = Str.ofString "many"
    · subst h3
      rfl
    · simp only [if_neg h2, if_neg h3]
theorem lawM_end {om' od' : Option Value} : (fun y => if y = Str.ofString "datagram" then od else if y = Str.ofString "many" then om else if y = Str.ofString "found" then of else if y = Str.ofString "due" then ou else if y = Str.ofString "filler" then ol else if y = Str.ofString "side" then os else if y = Str.ofString "step" then ot else lawM m₀ om' od' ou' of' ol' os' ot' y) = lawM m₀ om od ou of ol os ot :=
  (congrArg (fun g : Str → Option Value => fun y => if y = Str.ofString "datagram" then od else if y = Str.ofString "many" then om else g y) lawM_brk2).trans lawM_two
theorem lawM_self : lawM m₀ (m₀ (Str.ofString "many")) (m₀ (Str.ofString "datagram")) (m₀ (Str.ofString "due")) (m₀ (Str.ofString "found")) (m₀ (Str.ofString "filler")) (m₀ (Str.ofString "side")) (m₀ (Str.ofString "step")) = m₀ := by
  funext y
  unfold lawM
  repeat (first | rfl | (split; (rename_i h; rw [h])))
end
theorem and8 {a1 a2 a3 a4 a5 a6 a7 a8 b : Prop} (h : a1 ∧ a2 ∧ a3 ∧ a4 ∧ a5 ∧ a6 ∧ a7 ∧ a8 ∧ b) : b := h.2.2.2.2.2.2.2.2
theorem and9 {a1 a2 a3 a4 a5 a6 a7 a8 a9 b : Prop} (h : a1 ∧ a2 ∧ a3 ∧ a4 ∧ a5 ∧ a6 ∧ a7 ∧ a8 ∧ a9 ∧ b) : b := h.2.2.2.2.2.2.2.2.2
/-- where the law stands before a turn -/
def LawJ (w : World) (m₀ : Str → Option Value) (box it ce ln tk hr en x0 x1 : Addr) (oit oln otk ohr oen : Obj) (G : List (Addr × Obj)) (T0 T1 : Array UInt8) (a b sz D : Int) (i : Nat) (m : Str → Option Value) (news : List (Addr × Obj)) : Prop :=
  ∃ (km pos : Int) (tp tm td : Tok) (n : Nat) (oc : Obj) (v₀ : Option Value) (dg : Array UInt8) (ou of ol os ot : Option Value) (Y : List (Addr × Obj)),
    m = lawM m₀ (some (.int km tm)) (some (.bytes dg td)) ou of ol os ot ∧ km = (i : Int) ∧
    news = [(box, W.listOf #[.ref it, .int pos tp] n), (it, oit), (ce, oc), (ln, oln), (tk, otk), (hr, ohr), (en, oen)] ++ Y ∧ oc.data = .cell v₀ ∧ (0 ≤ pos ∧ pos ≤ 6 + (i : Int)) ∧
    YS w x0 x1 G [box, it, ce, ln, tk, hr, en] T0 T1 a b i Y ∧ DgIs T0 T1 sz D i dg ∧ (∀ j : Int, 1 ≤ j → j < (i : Int) → j < [a, b].getD (j.fmod 2).toNat 0) ∧ (i = 0 ∨ (i : Int) ≤ D - 20)
theorem LawJ.init {w : World} {m₀ : Str → Option Value} {box it ce ln tk hr en x0 x1 : Addr} {oit oln otk ohr oen : Obj} {G : List (Addr × Obj)} {T0 T1 : Array UInt8} {a b sz D pos : Int} {tp tm td ts : Tok} {n : Nat} {oc : Obj} {v₀ : Option Value} {dg : Array UInt8} {Y : List (Addr × Obj)}
    (_hs : m₀ (Str.ofString "size") = some (.int sz ts)) (hm : m₀ (Str.ofString "many") = some (.int 0 tm)) (hd : m₀ (Str.ofString "datagram") = some (.bytes dg td)) (hc : oc.data = .cell v₀) (hp : 0 ≤ pos ∧ pos ≤ 6) (hY : YS w x0 x1 G [box, it, ce, ln, tk, hr, en] T0 T1 a b 0 Y) (hdg : DgIs T0 T1 sz D 0 dg) :
    LawJ w m₀ box it ce ln tk hr en x0 x1 oit oln otk ohr oen G T0 T1 a b sz D 0 m₀ ([(box, W.listOf #[.ref it, .int pos tp] n), (it, oit), (ce, oc), (ln, oln), (tk, otk), (hr, ohr), (en, oen)] ++ Y) := by
  refine ⟨0, pos, tp, tm, td, n, oc, v₀, dg, m₀ (Str.ofString "due"), m₀ (Str.ofString "found"), m₀ (Str.ofString "filler"), m₀ (Str.ofString "side"), m₀ (Str.ofString "step"), Y, ?_, rfl, rfl, hc, ⟨hp.1, by omega⟩, hY, hdg, fun j h1 h2 => by omega, .inl rfl⟩
  rw [← hm, ← hd]
  exact lawM_self.symm
/-- what comes after the loop -/
def Fin (m₀ : Str → Option Value) (h₀ : Heap) (L ln : Addr) (oln : Obj) (a b D : Int) (Q : Flow → Shared → Prop) (s : Shared) : Prop :=
  ∀ (km : Int) (tm : Tok) (od ou of ol os ot : Option Value) (h : Heap) (tk : Nat) (news : List (Addr × Obj)), Fr h₀ L h (lawM m₀ (some (.int km tm)) od ou of ol os ot) → News h₀ L h news → (ln, oln) ∈ news →
    (∀ v, MostIs (if D - 20 > 0 then D - 20 else 0) a b v → km = v) → Q .next { s with heap := h, toks := tk }
section
variable {prog : Program} {w : World} {A : Around} {E : Value → Shared → Prop} {s : Shared} {env : Env} {h₀ : Heap} {x : Str} {body : List Stmt} {Q : Flow → Shared → Prop}
theorem law_loop {hs0 hs1 : Hs} {r L : Addr} {t₀ u₀ v₀ : Tok} {m₀ : Str → Option Value} {news : List (Addr × Obj)} {box it ce ln tk hr en x0 x1 : Addr} {oit oln otk ohr oen : Obj} {G : List (Addr × Obj)} {T0 T1 : Array UInt8} {a b sz D : Int}
    (hL : env.locals = L) (hh : A.handled = none) (hr' : IsRange s.heap r 0 60 1 t₀ u₀ v₀) (F : Fr h₀ L s.heap m₀) (N : News h₀ L s.heap news) (hD : D ≤ 42) (hch : Box (@LT.lt Nat _ ce it ∧ @LT.lt Nat _ it box ∧ @LT.lt Nat _ box ln ∧ @LT.lt Nat _ ln tk ∧ @LT.lt Nat _ tk hr ∧ @LT.lt Nat _ hr en)) (hgs : Box (Hs.Ok w hs0 ∧ Hs.Ok w hs1 ∧ G = hs0.led w T0 ++ hs1.led w T1))
    (hj : LawJ w m₀ box it ce ln tk hr en x0 x1 oit oln otk ohr oen G T0 T1 a b sz D 0 m₀ news)
    (fin : Fin m₀ h₀ L ln oln a b D Q s)
    (turn : Fin m₀ h₀ L ln oln a b D Q s → Box (@LT.lt Nat _ ce it ∧ @LT.lt Nat _ it box ∧ @LT.lt Nat _ box ln ∧ @LT.lt Nat _ ln tk ∧ @LT.lt Nat _ tk hr ∧ @LT.lt Nat _ hr en) → Box (Hs.Ok w hs0 ∧ Hs.Ok w hs1 ∧ G = hs0.led w T0 ++ hs1.led w T1) → ∀ (i : Nat) t m₁ news₁ h tk' I oI, i < 60 → LawJ w m₀ box it ce ln tk hr en x0 x1 oit oln otk ohr oen G T0 T1 a b sz D i m₁ news₁ → (∀ q ∈ news₁, @Ne Nat q.1 I) → Fr h₀ L h (fun y => if y = x then some (.int (i : Int) t) else m₁ y) → News h₀ L h ((I, oI) :: news₁) →
      wpAny (model prog w) A (execs body env) (TurnPost h₀ L I oI (LawJ w m₀ box it ce ln tk hr en x0 x1 oit oln otk ohr oen G T0 T1 a b sz D (i + 1)) { s with heap := h, toks := tk' } Q) E { s with heap := h, toks := tk' }) :
    wpAny (model prog w) A (pyIter (.ref r)) (fun it s₂ => LoopAtV prog w A h₀ env x body Q E it s₂) E s := by
  subst hL
  refine range_inv (n := 60) (LawJ w m₀ box it ce ln tk hr en x0 x1 oit oln otk ohr oen G T0 T1 a b sz D) hh hr' (by decide) (by decide) F N hj (turn fin hch hgs) fun m₁ news₁ h tk' hJ _ _ => ?_
  obtain ⟨km, pos, tp, tm, td, n, oc, v₀, dg, ou, of, ol, os, ot, Y, _, _, _, _, _, _, _, _, h⟩ := hJ
  exfalso
  omega
end
section
variable {w : World} {h₀ : Heap} {L I : Addr} {oI : Obj} {s₁ : Shared} {m₀ : Str → Option Value} {box it ce ln tk hr en x0 x1 : Addr} {oit oln otk ohr oen : Obj} {G : List (Addr × Obj)} {T0 T1 : Array UInt8} {a b sz D : Int}
theorem turn_end {i : Nat} {km pos : Int} {tp tm td : Tok} {n tk' : Nat} {oc : Obj} {v₀ : Option Value} {dg : Array UInt8} {ou of ol os ot : Option Value} {Y news' : List (Addr × Obj)} {h' : Heap}
    (F : Fr h₀ L h' (lawM m₀ (some (.int km tm)) (some (.bytes dg td)) ou of ol os ot)) (N : News h₀ L h' news') (hm : ∀ q ∈ (I, oI) :: ([(box, W.listOf #[.ref it, .int pos tp] n), (it, oit), (ce, oc), (ln, oln), (tk, otk), (hr, ohr), (en, oen)] ++ Y), q ∈ news')
    (hk : km = (i : Int) + 1) (hc : oc.data = .cell v₀) (hp : 0 ≤ pos ∧ pos ≤ 7 + (i : Int)) (hY : YS w x0 x1 G (I :: [box, it, ce, ln, tk, hr, en]) T0 T1 a b i Y) (hI : ∀ c ∈ [box, it, ce, ln, tk, hr, en], @Ne Nat c I)
    (hd : DgIs T0 T1 sz D (i + 1) dg) (hj : ∀ j : Int, 1 ≤ j → j < (i : Int) → j < [a, b].getD (j.fmod 2).toNat 0) (hi : i = 0 ∨ (i : Int) < [a, b].getD ((i : Int).fmod 2).toNat 0) (hD : (i : Int) + 1 ≤ D - 20) :
    TurnEnd h₀ L I oI (LawJ w m₀ box it ce ln tk hr en x0 x1 oit oln otk ohr oen G T0 T1 a b sz D (i + 1)) s₁ { s₁ with heap := h', toks := tk' } := by
  refine ⟨h', tk', _, [(box, W.listOf #[.ref it, .int pos tp] n), (it, oit), (ce, oc), (ln, oln), (tk, otk), (hr, ohr), (en, oen)] ++ Y, rfl, F, fun q hq => N q (hm q hq), fun q hq => ?_, km, pos, tp, tm, td, n, oc, v₀, dg, ou, of, ol, os, ot, Y, rfl, by omega, rfl, hc, ⟨hp.1, by omega⟩, hY.next, hd, fun j h1 h2 => ?_, .inr (by omega)⟩
  · rcases List.mem_append.mp hq with h | h
    · exact hI q.1 (List.mem_map_of_mem (f := (·.1)) h)
    · exact hY.apart (List.mem_cons_self ..) q h
  · by_cases h3 : j < (i : Int)
    · exact hj j h1 h3
    · have e : j = (i : Int) := by omega
      rcases hi with h | h
      · omega
      · rw [e]
        exact h
end
/-- the turn at which the answers end, as the law counts it -/
theorem most_stop {a b D km : Int} {i : Nat} (hk : km = (i : Int)) (h1 : 1 ≤ i) (h2 : [a, b].getD ((i : Int).fmod 2).toNat 0 ≤ (i : Int)) (h3 : i = 0 ∨ (i : Int) ≤ D - 20) (hj : ∀ j : Int, 1 ≤ j → j < (i : Int) → j < [a, b].getD (j.fmod 2).toNat 0) : ∀ v, MostIs (if D - 20 > 0 then D - 20 else 0) a b v → km = v := by
  intro v ⟨m1, m2, m3⟩
  have hM : (i : Int) ≤ (if D - 20 > 0 then D - 20 else 0) := by split <;> omega
  have u := m3 (i : Int) (by omega) hM h2
  rcases m2 with m2 | ⟨m2, m4⟩
  · omega
  · by_cases hv : v < (i : Int)
    · have := hj v m2 hv
      omega
    · omega
theorem most_end {a b D km : Int} {i : Nat} (hk : km = (i : Int)) (h3 : i = 0 ∨ (i : Int) ≤ D - 20) (hd : D - (i : Int) < 21) (hj : ∀ j : Int, 1 ≤ j → j < (i : Int) → j < [a, b].getD (j.fmod 2).toNat 0) : ∀ v, MostIs (if D - 20 > 0 then D - 20 else 0) a b v → km = v := by
  intro v ⟨m1, m2, m3⟩
  have hM : (i : Int) = (if D - 20 > 0 then D - 20 else 0) := by split <;> omega
  rw [← hM] at m1 m2
  rcases m2 with m2 | ⟨m2, m4⟩
  · omega
  · by_cases hv : v < (i : Int)
    · have := hj v m2 hv
      omega
    · omega
theorem ltAll {d : Addr} : ∀ {l : List (Addr × Obj)}, AllLt d l → ∀ p ∈ l, @LT.lt Nat _ p.1 d
  | [], _, _, h => absurd h List.not_mem_nil
  | _ :: _, h, p, hp => by
    rcases List.mem_cons.mp hp with rfl | hp
    · exact h.1
    · exact ltAll h.2 p hp
/-- before the first turn -/
theorem ys_init {w : World} {x0 x1 box it ce ln tk hr en dx0 dx1 : Addr} {E0 E1 G0 G1 : List (Addr × Obj)} {tk0 tk1 : Value} {T0 T1 : Array UInt8} {a b : Int} {adr : List Addr} (e0 : IsEnd w x0 tk0 E0) (e1 : IsEnd w x1 tk1 E1) (k0 : tk0 = .none) (k1 : tk1 = .none)
    (h6 : ∀ c ∈ [box, it, ce, ln, tk, hr], @LT.lt Nat _ c dx0) (hE0 : ∀ z ∈ E0, @LE.le Nat _ dx0 z.1 ∧ @LT.lt Nat _ z.1 dx1) (hE1 : ∀ z ∈ E1, @LE.le Nat _ dx1 z.1 ∧ @LT.lt Nat _ z.1 en) (h01 : @LT.lt Nat _ dx0 dx1) (h1n : @LT.lt Nat _ dx1 en)
    (hG : AllLt dx0 (G0 ++ G1)) (o0 : OwnOff G0 adr) (o1 : OwnOff G1 (adr ++ G0.map (·.1))) (h6a : ∀ c ∈ [box, it, ce, ln, tk], c ∈ adr) (hhr : AllLt hr (G0 ++ G1)) :
    YS w x0 x1 (G0 ++ G1) [box, it, ce, ln, tk, hr, en] T0 T1 a b 0 (E0 ++ (E1 ++ (G0 ++ G1))) := by
  have hg := ltAll hG
  have hg2 := ltAll hhr
  have s7 : ∀ c ∈ [box, it, ce, ln, tk, hr, en], c ∈ [box, it, ce, ln, tk, hr] ∨ c = en := by
    intro c hc
    simp only [List.mem_cons, List.not_mem_nil, or_false] at hc ⊢
    rcases hc with h | h | h | h | h | h | h <;> simp [h]
  have s6 : ∀ c ∈ [box, it, ce, ln, tk, hr], c ∈ [box, it, ce, ln, tk] ∨ c = hr := by
    intro c hc
    simp only [List.mem_cons, List.not_mem_nil, or_false] at hc ⊢
    rcases hc with h | h | h | h | h | h <;> simp [h]
  refine ⟨E0, E1, tk0, tk1, rfl, e0, e1, .inl k0, .inl k1, fun c hc z hz => ?_, fun c hc z hz => ?_, fun c hc z hz => ?_, fun q hq z hz => ?_, fun q hq z hz => ?_⟩
  · have u := hE0 z hz
    rcases s7 c hc with h | h
    · have v := h6 c h
      exact neN (by omega)
    · exact neN (by rw [h]; omega)
  · have u := hE1 z hz
    rcases s7 c hc with h | h
    · have v := h6 c h
      exact neN (by omega)
    · exact neN (by rw [h]; omega)
  · have u := hg z hz
    rcases s7 c hc with h | h
    · rcases s6 c h with h | h
      · rcases List.mem_append.mp hz with hz | hz
        · exact Ne.symm (o0 z hz c (h6a c h))
        · exact Ne.symm (o1 z hz c (List.mem_append_left _ (h6a c h)))
      · have v := hg2 z hz
        exact neN (by rw [h]; omega)
    · exact neN (by rw [h]; omega)
  · have u := hE0 z hz
    rcases List.mem_append.mp hq with h | h
    · have v := hE1 q h
      exact neN (by omega)
    · have v := hg q h
      exact neN (by omega)
  · have u := hE1 z hz
    rcases List.mem_append.mp hq with h | h
    · have v := hE0 q h
      exact neN (by omega)
    · have v := hg q h
      exact neN (by omega)
end
section
/-- marks that the walk is to stand at the next condition -/
def StopIf : Prop := True
theorem fr_cast {h₀ h : Heap} {L : Addr} {m m' : Str → Option Value} (e : m = m') (F : Fr h₀ L h m) : Fr h₀ L h m' := e ▸ F
theorem sub_cons {E Y : List (Addr × Obj)} {p : Addr × Obj} (h : ∀ q ∈ E, q ∈ Y) : ∀ q ∈ E, q ∈ p :: Y := fun q hq => List.mem_cons_of_mem _ (h q hq)
theorem offI {lits Y : List (Addr × Obj)} {I : Addr} (h : ∀ q ∈ lits ++ Y, @Ne Nat q.1 I) : (∀ c ∈ lits.map (·.1), @Ne Nat c I) ∧ ∀ z ∈ Y, @Ne Nat z.1 I := by
  refine ⟨fun c hc => ?_, fun z hz => h z (List.mem_append_right _ hz)⟩
  obtain ⟨q, hq, rfl⟩ := List.mem_map.mp hc
  exact h q (List.mem_append_left _ hq)
section
variable {prog : Program} {w : World} {A : Around} {E : Value → Shared → Prop} {s : Shared}
theorem mod_my {b c d : Int} {t u : Tok} {Q : Value → Shared → Prop} (hc : c ≠ 0) (h : b.fmod c = d) (hQ : ∀ t' k, Q (.int d t') { s with toks := k }) : wpAny (model prog w) A (binaryOp .Mod (.int b t) (.int c u)) Q E s := by
  refine mod_int' hc ?_
  rw [h]
  exact hQ _ _
theorem sub_my {b c d : Int} {t u : Tok} {Q : Value → Shared → Prop} (h : b - c = d) (hQ : ∀ t' k, Q (.int d t') { s with toks := k }) : wpAny (model prog w) A (binaryOp .Sub (.int b t) (.int c u)) Q E s := by
  refine sub_int ?_
  rw [h]
  exact hQ _ _
theorem lti_yes {b c : Int} {t u : Tok} {Q : Value → Shared → Prop} (h : b < c) (hQ : Q (.bool true) s) : wpAny (model prog w) A (compareOp .Lt (.int b t) (.int c u)) Q E s := by
  refine lt_int ?_
  rw [decide_eq_true h]
  exact hQ
theorem lti_no {b c : Int} {t u : Tok} {Q : Value → Shared → Prop} (h : ¬ b < c) (hQ : Q (.bool false) s) : wpAny (model prog w) A (compareOp .Lt (.int b t) (.int c u)) Q E s := by
  refine lt_int ?_
  rw [decide_eq_false h]
  exact hQ
end
section
variable {w : World} {x0 x1 xs : Addr} {G Y lits : List (Addr × Obj)} {as : List Addr} {T0 T1 Ts : Array UInt8} {a b a' : Int} {i : Nat} {h₀ : Heap} {L : Addr} {m : Str → Option Value} {s : Shared} {E : Value → Shared → Prop} {M : Model} {A : Around} {c : Sem Flow} {Q : Flow → Shared → Prop}
def Mid (h₀ : Heap) (L : Addr) (m : Str → Option Value) (lits : List (Addr × Obj)) (w : World) (x0 x1 : Addr) (G : List (Addr × Obj)) (as : List Addr) (T0 T1 : Array UInt8) (a b : Int) (i : Nat) (xs : Addr) (Ts : Array UInt8) (a' : Int) (s₁ : Shared) (fl : Flow) (s₂ : Shared) : Prop :=
  fl = .next ∧ ∃ h' tk' Y', s₂ = { s₁ with heap := h', toks := tk' } ∧ Fr h₀ L h' m ∧ News h₀ L h' (lits ++ Y') ∧ YS w x0 x1 G as T0 T1 a b i Y' ∧ OwnIs w xs Ts a' i Y'
theorem mid_cut0 (_ : YS w x0 x1 G as T0 T1 a b i Y) (_ : Fr h₀ L s.heap m) (_ : News h₀ L s.heap (lits ++ Y))
    (w1 : wpAny M A c (Mid h₀ L m lits w x0 x1 G as T0 T1 a b i x0 T1 a s) E s)
    (w2 : ∀ h' tk' Y', Fr h₀ L h' m → News h₀ L h' (lits ++ Y') → YS w x0 x1 G as T0 T1 a b i Y' → OwnIs w x0 T1 a i Y' → Q .next { s with heap := h', toks := tk' }) : wpAny M A c Q E s :=
  wpAny_mono w1 (fun fl s₂ ⟨e, h', tk', Y', e2, F, N, hY, hO⟩ => by subst e; subst e2; exact w2 h' tk' Y' F N hY hO) fun _ _ e => e
theorem mid_cut1 (_ : YS w x0 x1 G as T0 T1 a b i Y) (_ : Fr h₀ L s.heap m) (_ : News h₀ L s.heap (lits ++ Y))
    (w1 : wpAny M A c (Mid h₀ L m lits w x0 x1 G as T0 T1 a b i x1 T0 b s) E s)
    (w2 : ∀ h' tk' Y', Fr h₀ L h' m → News h₀ L h' (lits ++ Y') → YS w x0 x1 G as T0 T1 a b i Y' → OwnIs w x1 T0 b i Y' → Q .next { s with heap := h', toks := tk' }) : wpAny M A c Q E s :=
  wpAny_mono w1 (fun fl s₂ ⟨e, h', tk', Y', e2, F, N, hY, hO⟩ => by subst e; subst e2; exact w2 h' tk' Y' F N hY hO) fun _ _ e => e
theorem mid_end {h' : Heap} {tk' : Nat} {Y' : List (Addr × Obj)} (F : Fr h₀ L h' m) (N : News h₀ L h' (lits ++ Y')) (hY : YS w x0 x1 G as T0 T1 a b i Y') (hO : OwnIs w xs Ts a' i Y') :
    Mid h₀ L m lits w x0 x1 G as T0 T1 a b i xs Ts a' s .next { s with heap := h', toks := tk' } := ⟨rfl, h', tk', Y', rfl, F, N, hY, hO⟩
end
theorem own_reset0 {w : World} {x : Addr} {T0 T1 dg : Array UInt8} {sz D a : Int} {i : Nat} {Y : List (Addr × Obj)} (hp : i % 2 = 0) (hO : OwnIs w x T1 a i Y) (hd : DgIs T0 T1 sz D i dg) (hb : dg.size ≤ 1000) :
    ∃ E v, (∀ td : Tok, Does w 10 142 [.ref x, .bytes dg td] E (fun r post => r = .bool v ∧ ∀ q ∈ E, q ∈ post)) ∧ (∀ q ∈ E, q ∈ Y) ∧ (v = true → 1 ≤ i ∧ a ≤ (i : Int)) ∧ (v = false → i = 0 ∨ (i : Int) < a) :=
  own_reset (by rw [if_neg (by omega)]; exact hO) hd hb
theorem own_reset1 {w : World} {x : Addr} {T0 T1 dg : Array UInt8} {sz D a : Int} {i : Nat} {Y : List (Addr × Obj)} (hp : i % 2 = 1) (hO : OwnIs w x T0 a i Y) (hd : DgIs T0 T1 sz D i dg) (hb : dg.size ≤ 1000) :
    ∃ E v, (∀ td : Tok, Does w 10 142 [.ref x, .bytes dg td] E (fun r post => r = .bool v ∧ ∀ q ∈ E, q ∈ post)) ∧ (∀ q ∈ E, q ∈ Y) ∧ (v = true → 1 ≤ i ∧ a ≤ (i : Int)) ∧ (v = false → i = 0 ∨ (i : Int) < a) :=
  own_reset (by rw [if_pos hp]; exact hO) hd hb
/-- the size of an answer -/
theorem due_is {T0 T1 dg : Array UInt8} {sz D : Int} {i : Nat} (hd : DgIs T0 T1 sz D i dg) (hsz : sz ≤ 1000) (hD : D = if (42 : Int) < sz - 1 then 42 else sz - 1) :
    ∃ d : Int, d = D - (i : Int) ∧ d ≤ 42 ∧ (if (42 : Int) < (dg.size : Int) - 1 then 42 else (dg.size : Int) - 1) = d ∧ dg.size ≤ 1000 := by
  have h42 : D ≤ 42 := by rw [hD]; split <;> omega
  refine ⟨D - (i : Int), rfl, by omega, ?_, ?_⟩
  · rcases hd with ⟨h0, h1, _⟩ | ⟨h0, h1, _, _⟩
    · rw [h1, ← hD, h0]
      simp
    · rw [if_neg (by omega)]
      omega
  · rcases hd with ⟨_, h1, _⟩ | ⟨h0, h1, _, _⟩ <;> omega
theorem dg_next0 {T0 T1 fil : Array UInt8} {sz D due : Int} {i : Nat} (hp : i % 2 = 0) (hdue : due = D - (i : Int)) (h21 : 21 ≤ due) (h42 : due ≤ 42) (ht : T0.size = 16) (hf : fil.size = 42) : DgIs T0 T1 sz D (i + 1) (resArr due T0 fil) := by
  have hd : due = ((due.toNat : Nat) : Int) := by omega
  have hs := res_size (tok := T0) (fil := fil) hd (by omega) (by omega) ht
  refine .inr ⟨by omega, by rw [hs]; omega, by rw [hs]; omega, ?_⟩
  rw [if_pos (by omega)]
  exact res_tail hd (by rw [hs]; omega) (by omega) (by omega) ht
theorem dg_next1 {T0 T1 fil : Array UInt8} {sz D due : Int} {i : Nat} (hp : i % 2 = 1) (hdue : due = D - (i : Int)) (h21 : 21 ≤ due) (h42 : due ≤ 42) (ht : T1.size = 16) (hf : fil.size = 42) : DgIs T0 T1 sz D (i + 1) (resArr due T1 fil) := by
  have hd : due = ((due.toNat : Nat) : Int) := by omega
  have hs := res_size (tok := T1) (fil := fil) hd (by omega) (by omega) ht
  refine .inr ⟨by omega, by rw [hs]; omega, by rw [hs]; omega, ?_⟩
  rw [if_neg (by omega)]
  exact res_tail hd (by rw [hs]; omega) (by omega) (by omega) ht
theorem YS.hears {w : World} {x0 x1 : Addr} {G Y : List (Addr × Obj)} {as : List Addr} {T0 T1 : Array UInt8} {a b : Int} {i : Nat} {A B : List (Addr × Obj)} (hY : YS w x0 x1 G as T0 T1 a b i Y) (hG : G = A ++ B) : (∀ q ∈ A ++ B, q ∈ Y) ∧ ∀ q ∈ B ++ A, q ∈ Y := by
  obtain ⟨E0, E1, tk0, tk1, rfl, _⟩ := hY
  subst hG
  refine ⟨fun q hq => List.mem_append_right _ (List.mem_append_right _ hq), fun q hq => List.mem_append_right _ (List.mem_append_right _ ?_)⟩
  rcases List.mem_append.mp hq with h | h
  · exact List.mem_append_right _ h
  · exact List.mem_append_left _ h
theorem lt_if {x d k : Int} (h : x = d) (h2 : d < k) : x < k := h ▸ h2
theorem nlt_if {x d k : Int} (h : x = d) (h2 : k ≤ d) : ¬ x < k := by omega
theorem ge_if {x d k : Int} (h : x = d) (h2 : k ≤ d) : k ≤ x := by omega
theorem le_if {x d k : Int} (h : x = d) (h2 : d ≤ k) : x ≤ k := by omega
theorem right3_does {w : World} {due : Int} {tok fil : Array UInt8} {t u v x : Tok} (h1 : 21 ≤ due) (h2 : due ≤ 42) (ht : tok.size = 16) (hf : fil.size = 42) :
    Does w 20 175 [.bytes (resArr due tok fil) t, .int due u, .bytes tok v, .bytes fil x] [] (fun r _ => r = .bool true) :=
  right2_does (d := due.toNat) (by omega) (by omega) (by omega) ht hf
theorem heard3_does {w : World} {o q : Hs} {TA UA fil : Array UInt8} {t : Tok} {due : Int} (ho : o.Ok w) (hq : q.Ok w) (h1 : 21 ≤ due) (h2 : due ≤ 42) (ht : TA.size = 16) (hf : fil.size = 42) (hU : UA ≠ TA) (hZ : zeros ≠ TA) :
    Does w 20 180 [.bytes (resArr due TA fil) t, .ref o.v, .ref q.v] (o.led w TA ++ q.led w UA) (fun r post => r = .bool true ∧ ∀ z ∈ o.led w TA ++ q.led w UA, z ∈ post) :=
  heard2_does (d := due.toNat) ho hq (by omega) (by omega) (by omega) ht hf hU hZ
section
variable {w : World} {x0 x1 : Addr} {G Y : List (Addr × Obj)} {as : List Addr} {T0 T1 : Array UInt8} {a b : Int} {i : Nat}
theorem YS.end0 (hY : YS w x0 x1 G as T0 T1 a b i Y) : ∃ E tk, IsEnd w x0 tk E ∧ ∀ q ∈ E, q ∈ Y := by
  obtain ⟨E0, E1, tk0, tk1, rfl, e0, _⟩ := hY
  exact ⟨E0, tk0, e0, fun q hq => List.mem_append_left _ hq⟩
theorem YS.end1 (hY : YS w x0 x1 G as T0 T1 a b i Y) : ∃ E tk, IsEnd w x1 tk E ∧ ∀ q ∈ E, q ∈ Y := by
  obtain ⟨E0, E1, tk0, tk1, rfl, _, e1, _⟩ := hY
  exact ⟨E1, tk1, e1, fun q hq => List.mem_append_right _ (List.mem_append_left _ hq)⟩
end
section
variable {prog : Program} {w : World} {A : Around} {E : Value → Shared → Prop} {s : Shared} {K : Frag} {h₀ : Heap} {L x f : Addr} {m : Str → Option Value} {E₁ news : List (Addr × Obj)} {tk : Value} {name : String} {pl : Sem Bool} {Q : Value × List Value → Shared → Prop}
/-- an end's method -/
theorem method_end (hE : IsEnd w x tk E₁) (hsub : ∀ q ∈ E₁, q ∈ news) (F : Fr h₀ L s.heap m) (X₀ : K.In h₀) (N : News h₀ L s.heap news) (hg : plainGet K 145 (Str.ofString name) = true)
    (hf : findIn K (.ref 145) (Str.ofString name) = some (some (.ref f))) (ht : isFn K (.ref f) = true)
    (hl : ∀ e : EP, getL (Str.ofString name) [ent w "limit" e.t0 e.lim, ent w "known" e.t1 (.ref e.kd), ent w "current" e.t2 e.cu, ent w "used" e.t3 (.ref e.ul), ent w "retire_prior" e.t4 e.rp, ent w "told" e.t5 (.ref e.td), ent w "to_retire" e.t6 (.ref e.tr), ent w "is_empty" e.t7 e.em] = some none)
    (h : Q (.ref f, [.ref x]) s) : wpAny (model prog w) A (getMethod (.ref x) (Str.ofString name) pl) Q E s := by
  obtain ⟨e, _, rfl⟩ := hE
  exact method_inst F X₀ ⟨(N _ (hsub _ (List.mem_cons_self ..))).1, rfl, rfl, (N _ (hsub _ (List.mem_cons_of_mem _ (List.mem_cons_self ..)))).1⟩ hg hf ht (hl e) h
end
end
section
theorem stop0 {a b : Int} {i : Nat} (hp : i % 2 = 0) (h : a ≤ (i : Int)) : [a, b].getD ((i : Int).fmod 2).toNat 0 ≤ (i : Int) := by
  have e : (i : Int).fmod 2 = 0 := by rw [Int.fmod_eq_emod_of_nonneg _ (by decide)]; omega
  rw [e]
  exact h
theorem stop1 {a b : Int} {i : Nat} (hp : i % 2 = 1) (h : b ≤ (i : Int)) : [a, b].getD ((i : Int).fmod 2).toNat 0 ≤ (i : Int) := by
  have e : (i : Int).fmod 2 = 1 := by rw [Int.fmod_eq_emod_of_nonneg _ (by decide)]; omega
  rw [e]
  exact h
theorem go0 {a b : Int} {i : Nat} (hp : i % 2 = 0) (h : i = 0 ∨ (i : Int) < a) : i = 0 ∨ (i : Int) < [a, b].getD ((i : Int).fmod 2).toNat 0 := by
  have e : (i : Int).fmod 2 = 0 := by rw [Int.fmod_eq_emod_of_nonneg _ (by decide)]; omega
  rw [e]
  exact h
theorem go1 {a b : Int} {i : Nat} (hp : i % 2 = 1) (h : i = 0 ∨ (i : Int) < b) : i = 0 ∨ (i : Int) < [a, b].getD ((i : Int).fmod 2).toNat 0 := by
  have e : (i : Int).fmod 2 = 1 := by rw [Int.fmod_eq_emod_of_nonneg _ (by decide)]; omega
  rw [e]
  exact h
theorem end_lt {d D : Int} {i : Nat} (h : d = D - (i : Int)) (h2 : d < 21) : D - (i : Int) < 21 := by omega
theorem nxt_le {d D : Int} {i : Nat} (h : d = D - (i : Int)) (h2 : 21 ≤ d) : (i : Int) + 1 ≤ D - 20 := by omega
theorem brk_end {h₀ h : Heap} {L I ln : Addr} {oI oln : Obj} {J : (Str → Option Value) → List (Addr × Obj) → Prop} {s s₁ : Shared} {Q : Flow → Shared → Prop} {m₀ : Str → Option Value} {a b D km : Int} {tm : Tok} {od ou of ol os ot : Option Value} {tk : Nat} {news : List (Addr × Obj)}
    (hfin : Fin m₀ h₀ L ln oln a b D Q s) (F : Fr h₀ L h (lawM m₀ (some (.int km tm)) od ou of ol os ot)) (N : News h₀ L h news) (hl : (ln, oln) ∈ news) (hv : ∀ v, MostIs (if D - 20 > 0 then D - 20 else 0) a b v → km = v) :
    TurnPost h₀ L I oI J s₁ Q .brk { s with heap := h, toks := tk } := hfin km tm od ou of ol os ot h tk news F N hl hv
theorem next_end {h₀ : Heap} {L I : Addr} {oI : Obj} {J : (Str → Option Value) → List (Addr × Obj) → Prop} {s₁ s₂ : Shared} {Q : Flow → Shared → Prop} (h : TurnEnd h₀ L I oI J s₁ s₂) : TurnPost h₀ L I oI J s₁ Q .next s₂ := h
end
section
/-- the walk stands here -/
def Hold (P : Prop) : Prop := P
theorem hold_on {P : Prop} (h : Hold P) : P := h
set_option maxHeartbeats 80000000 in
def lawA := fun (z0 : Hid _) => (Mine.hd (by
  k_go0
  (all_goals try k_fold)
  have kM := kstMark
  repeat' (first | (k_unfold; (try dsimp only)) | (k_end; wrow_close) | (with_reducible first | ((with_reducible show wpAny _ _ (pyIter (Value.ref _)) (fun it s₂ => LoopAtV _ _ _ _ _ _ _ _ _ it s₂) _ _); (refine hold_on ?_)) | ((with_reducible show wpAny _ _ (exec (Stmt.If _ _ _ _) _) _ _ _); (k_here; with_reducible refine wpAny_If ?_)) | (k_here; (with_reducible show wpAny _ _ (binaryOp _ (Value.bytes _ _) (Value.bytes _ _)) _ _ _); (refine add_my (by simp only [byteArr_size, Array.size_replicate, List.length_cons, List.length_nil]; omega) ?_); intro _ _) | ((with_reducible show wpAny _ _ (call (Value.type "bytes") [Value.ref _]) _ _ _); (k_dflt ((refine' make_my ?bF ?bN rfl ?bl ?br ?_); (case bF => k_asm); (case bN => k_asm); (case bl => k_mem); (case br => exact ⟨Int.fmod_nonneg_of_pos _ (by decide), Int.fmod_lt_of_pos _ (by decide)⟩))); (intro _ _ _ F' N')) | ((with_reducible show wpAny _ _ (call (Value.type "bytes") [Value.int _ _]) _ _ _); (k_dflt ((refine' call_bytesN ?bN0 ?bN1 ?_); (case bN0 => omega); (case bN1 => omega))); (intro _ _)) | (k_here; (with_reducible show wpAny _ _ (subscriptTail _ _ (Value.bytes _ _) (Value.int _ _)) _ _ _); (refine item_my (by rw [tok_size]; omega) (by omega) (by rw [tok_size]; omega) ?_); intro _ _ _ _) | ((with_reducible show wpAny _ _ (call (Value.ref _) _) _ _ _); (first | ((with_reducible show wpAny _ _ (call (Value.ref 145) _) _ _ _); k_dflt ((k_here; k_dflt (refine' DoesO.use (mkRem_does ?hcA ?hc2A) ?k1 ?k2 ?k3 ?k4 ?k5 ?kK ?kd ?ku ?_; (case k1 => k_asm); (case k2 => k_asm); (case k3 => k_asm); (case k4 => k_asm); (case k5 => k_asm); (case kK => first | exact rfl | assumption); (case kd => first | decide | ktr_room); (case ku => ktr_units))); (case hcA => decide); (case hc2A => decide); (intro r9 post9 h9 tk9 hR9 ord9 F9 N9); (obtain ⟨⟨x9, dx9, kd9, td9, ul9, tr9, tp9, tq9, ko9, to9, a0, a1, a2, a3, a4, a5, a6, a7, tcu9, tu9, trp9⟩, hr9, hk9, ht9, m8, m9, lt9, hp9⟩ := hR9); (dsimp only at hr9 hk9 ht9 m8 m9 lt9 hp9); (subst hr9); (subst hp9); (have l9 := allLt_of (above9 ord9)); (clear ord9); (simp only [AllLt, and_true] at l9); (simp only [List.cons_append, List.nil_append] at N9); (try dsimp only); (try k_fold))) | ((with_reducible show wpAny _ _ (call (Value.ref 156) _) _ _ _); k_dflt ((k_here; k_dflt (refine' Does.split (take_does ?hi ?hne ?hl ?h0 ?h1 ?hm ?hm2) ?k1 ?k2 ?k3 ?k4 ?k5 ?kK ?kd ?ku (List.forall_mem_cons.mpr ⟨?maG, List.forall_mem_cons.mpr ⟨?mbG, List.forall_mem_nil _⟩⟩) ?ksp ?_; (case k1 => k_asm); (case k2 => k_asm); (case k3 => k_asm); (case k4 => k_asm); (case k5 => k_asm); (case kK => first | exact rfl | assumption); (case kd => first | decide | ktr_room); (case ku => ktr_units))); (case maG => k_mem); (case mbG => k_mem); (case hi => assumption); (case hne => omega); (case hl => first | assumption | (rw [List.length_take]; omega)); (case h0 => omega); (case h1 => omega); (case hm => decide); (case hm2 => decide); (case ksp => (simp only [List.map_cons, List.map_nil]; tb_start)); (intro r9 post9 h9 tk9 hR9 F9 N9); (obtain ⟨v9, t9, t8, n9, lo9, hi9, hr9, hp9⟩ := hR9); (subst hr9); (subst hp9); (simp only [List.cons_append, List.nil_append] at N9); (try dsimp only); (try k_fold))) | ((with_reducible show wpAny _ _ (call (Value.ref 168) _) _ _ _); k_dflt ((k_here; k_dflt (refine' DoesF.use (hearers_does ?hT) ?k1 ?k2 ?k3 ?k4 ?k5 ?kK ?kd ?ku ?_; (case k1 => k_asm); (case k2 => k_asm); (case k3 => k_asm); (case k4 => k_asm); (case k5 => k_asm); (case kK => first | exact rfl | assumption); (case kd => first | decide | ktr_room); (case ku => ktr_units))); (case hT => exact tok_size _ _ _); (intro r9 post9 h9 tk9 hR9 off9 F9 N9); (obtain ⟨hs9, ok9, hr9, hp9⟩ := hR9); (subst hr9); (simp only [List.cons_append, List.nil_append] at N9); (simp only [List.map_cons, List.map_nil] at off9); (try dsimp only); (try k_fold))) | ((with_reducible show wpAny _ _ (call (Value.ref 161) _) _ _ _); k_dflt ((k_here; k_dflt (refine' Does.read (token_does ?h0 ?h1 ?h2 ?h3 ?h4 ?h5) ?kr ?k1 ?k2 ?k3 ?k4 ?k5 ?kK ?kd ?ku ?ks ?_; (case kr => first | (intro _ _ hR; exact hR.2) | (intro _ _ _ q hq; cases hq)); (case k1 => k_asm); (case k2 => k_asm); (case k3 => k_asm); (case k4 => k_asm); (case k5 => k_asm); (case kK => first | exact rfl | assumption); (case kd => first | decide | ktr_room); (case ku => ktr_units); (case ks => first | (dsimp only [sh]; (refine' List.forall_mem_cons.mpr ⟨?ma, List.forall_mem_cons.mpr ⟨?mb, List.forall_mem_cons.mpr ⟨?mc, List.forall_mem_cons.mpr ⟨?md, List.forall_mem_cons.mpr ⟨?me, List.forall_mem_nil _⟩⟩⟩⟩⟩); (case ma => k_mem); (case mb => k_mem); (case mc => k_mem); (case md => k_mem); (case me => k_mem)) | (intro q hq; cases hq)))); (case h0 => omega); (case h1 => omega); (case h2 => omega); (case h3 => omega); (case h4 => omega); (case h5 => omega); (intro r9 post9 h9 tk9 hR9 F9 N9); (obtain ⟨t9, hR9⟩ := hR9); (subst hR9); (try dsimp only); (try k_fold))))) | ((with_reducible show wpAny _ _ (execs [] _) _ _ _); (k_here; (with_reducible refine gen_toks ?_); intro _; (with_reducible refine wpAny_execs_nil ?_))) | ((with_reducible show wpAny _ _ (execs (_ :: _) _) _ _ _); (k_here; (with_reducible refine gen_toks ?_); intro _; (with_reducible refine wpAny_execs_cons ?_); (try k_fold)))) | walk1 | (dsimp only) | (leave1; walk_say "STEP leave1"; try dsimp only) | fail "no step")
  all_goals (unfold Hold)
  all_goals ((repeat (rename _ => z9; revert z9)); exact fun x => x.out)) : PySem.Challenge.rw_tk0093_01.Holds)
end
section
set_option maxHeartbeats 80000000 in
def lawB := fun (z0 : Hid _) (z1 : Hid _) => (by
  unfold Dom1
  intros
  refine' law_loop (hs0 := ?hs0) (hs1 := ?hs1) (D := if (42 : Int) < ?sz - 1 then 42 else ?sz - 1) (sz := ?sz) (news := ([(?box, W.listOf #[.ref ?it, .int ?pos ?tpb] ?nb), (?it, ?oit), (?ce, ?oc), (?ln, W.listOf #[.int ?a ?ta, .int ?b ?tb] ?nl), (?tk, W.listOf #[.bytes ?T0 ?u0, .bytes ?T1 ?u1] ?nt), (?hr, W.listOf #[.ref (Hs.v ?hs0), .ref (Hs.v ?hs1)] ?nh), (?en, W.listOf #[.ref ?x0, .ref ?x1] ?ne)] ++ ([(?x0, instObj 145 ?dx0), (?dx0, dictOf [ent _ "limit" ?t00 ?lim0, ent _ "known" ?t10 (.ref ?kd0), ent _ "current" ?t20 ?cu0, ent _ "used" ?t30 (.ref ?ul0), ent _ "retire_prior" ?t40 ?rp0, ent _ "told" ?t50 (.ref ?td0), ent _ "to_retire" ?t60 (.ref ?tr0), ent _ "is_empty" ?t70 ?em0] 8), (?kd0, ?ko0), (?td0, ?to0), (?ul0, W.listOf #[.int 0 ?tu0] 0), (?tr0, W.listOf #[] 0), (?tp0, tup [.bytes ?c0 ?tc0, .none]), (?tq0, tup [.bytes ?d0 ?tcc0, .none])] ++ ([(?x1, instObj 145 ?dx1), (?dx1, dictOf [ent _ "limit" ?t01 ?lim1, ent _ "known" ?t11 (.ref ?kd1), ent _ "current" ?t21 ?cu1, ent _ "used" ?t31 (.ref ?ul1), ent _ "retire_prior" ?t41 ?rp1, ent _ "told" ?t51 (.ref ?td1), ent _ "to_retire" ?t61 (.ref ?tr1), ent _ "is_empty" ?t71 ?em1] 8), (?kd1, ?ko1), (?td1, ?to1), (?ul1, W.listOf #[.int 0 ?tu1] 0), (?tr1, W.listOf #[] 0), (?tp1, tup [.bytes ?c1 ?tc1, .none]), (?tq1, tup [.bytes ?d1 ?tcc1, .none])] ++ (?G0 ++ ?G1))))) (box := ?box) (it := ?it) (ce := ?ce) (ln := ?ln) (tk := ?tk) (hr := ?hr) (en := ?en) (x0 := ?x0) (x1 := ?x1) (G := ?G0 ++ ?G1) (T0 := ?T0) (T1 := ?T1) (a := ?a) (b := ?b) ?hL ?hh ?hrng ?F (cb_drop ?N (List.forall_mem_append.mpr ⟨(List.forall_mem_cons.mpr ⟨?mbox, List.forall_mem_cons.mpr ⟨?mit, List.forall_mem_cons.mpr ⟨?mce, List.forall_mem_cons.mpr ⟨?mln, List.forall_mem_cons.mpr ⟨?mtk, List.forall_mem_cons.mpr ⟨?mhr, List.forall_mem_cons.mpr ⟨?men, List.forall_mem_nil _⟩⟩⟩⟩⟩⟩⟩), List.forall_mem_append.mpr ⟨(List.forall_mem_cons.mpr ⟨?m01, List.forall_mem_cons.mpr ⟨?m02, List.forall_mem_cons.mpr ⟨?m03, List.forall_mem_cons.mpr ⟨?m04, List.forall_mem_cons.mpr ⟨?m05, List.forall_mem_cons.mpr ⟨?m06, List.forall_mem_cons.mpr ⟨?m07, List.forall_mem_cons.mpr ⟨?m08, List.forall_mem_nil _⟩⟩⟩⟩⟩⟩⟩⟩), List.forall_mem_append.mpr ⟨(List.forall_mem_cons.mpr ⟨?m11, List.forall_mem_cons.mpr ⟨?m12, List.forall_mem_cons.mpr ⟨?m13, List.forall_mem_cons.mpr ⟨?m14, List.forall_mem_cons.mpr ⟨?m15, List.forall_mem_cons.mpr ⟨?m16, List.forall_mem_cons.mpr ⟨?m17, List.forall_mem_cons.mpr ⟨?m18, List.forall_mem_nil _⟩⟩⟩⟩⟩⟩⟩⟩), ?mG⟩⟩⟩)) ?hD ?hch (Box.mk ⟨?ok0, ?ok1, congr (congrArg HAppend.hAppend ?eG0) ?eG1⟩) (LawJ.init ?js ?jm ?jd ?jc ?jp (ys_init (adr := ?adr) (dx0 := ?dx0) (dx1 := ?dx1) ⟨⟨?dx0, ?kd0, ?td0, ?ul0, ?tr0, ?tp0, ?tq0, ?ko0, ?to0, ?t00, ?t10, ?t20, ?t30, ?t40, ?t50, ?t60, ?t70, ?tu0, ?tc0, ?tcc0, ?lim0, ?cu0, ?rp0, ?em0, .none, ?c0, ?d0⟩, ⟨?hk0, ?ht0, ?km0, ?tm0, ?or0⟩, rfl⟩ ⟨⟨?dx1, ?kd1, ?td1, ?ul1, ?tr1, ?tp1, ?tq1, ?ko1, ?to1, ?t01, ?t11, ?t21, ?t31, ?t41, ?t51, ?t61, ?t71, ?tu1, ?tc1, ?tcc1, ?lim1, ?cu1, ?rp1, ?em1, .none, ?c1, ?d1⟩, ⟨?hk1, ?ht1, ?km1, ?tm1, ?or1⟩, rfl⟩ rfl rfl ?y6 (List.forall_mem_cons.mpr ⟨?m01o, List.forall_mem_cons.mpr ⟨?m02o, List.forall_mem_cons.mpr ⟨?m03o, List.forall_mem_cons.mpr ⟨?m04o, List.forall_mem_cons.mpr ⟨?m05o, List.forall_mem_cons.mpr ⟨?m06o, List.forall_mem_cons.mpr ⟨?m07o, List.forall_mem_cons.mpr ⟨?m08o, List.forall_mem_nil _⟩⟩⟩⟩⟩⟩⟩⟩) (List.forall_mem_cons.mpr ⟨?m11o, List.forall_mem_cons.mpr ⟨?m12o, List.forall_mem_cons.mpr ⟨?m13o, List.forall_mem_cons.mpr ⟨?m14o, List.forall_mem_cons.mpr ⟨?m15o, List.forall_mem_cons.mpr ⟨?m16o, List.forall_mem_cons.mpr ⟨?m17o, List.forall_mem_cons.mpr ⟨?m18o, List.forall_mem_nil _⟩⟩⟩⟩⟩⟩⟩⟩) ?y01 ?y1n ?yG ?yo0 ?yo1 ?y6a ?yhr) (.inl ⟨rfl, ?jsz, ?jne⟩)) ?fin ?turn
  case F => k_asm
  case N => k_asm
  case mbox => k_mem
  case mit => k_mem
  case jc => assumption
  case mce => k_mem
  case mln => k_mem
  case mtk => k_mem
  case js => exact rfl
  case jm => exact rfl
  case jd => exact rfl
  case eG0 => assumption
  case eG1 => assumption
  case mhr => k_mem
  case men => k_mem
  case ok0 => assumption
  case ok1 => assumption
  case m01 => k_mem
  case m02 => k_mem
  case m03 => k_mem
  case hk0 => assumption
  case m07 => k_mem
  case m04 => k_mem
  case ht0 => assumption
  case m08 => k_mem
  case m05 => k_mem
  case m06 => k_mem
  case km0 => assumption
  case tm0 => assumption
  case or0 => (dsimp only; omega)
  case m11 => k_mem
  case m12 => k_mem
  case m13 => k_mem
  case hk1 => assumption
  case m17 => k_mem
  case m14 => k_mem
  case ht1 => assumption
  case m18 => k_mem
  case m15 => k_mem
  case m16 => k_mem
  case km1 => assumption
  case tm1 => assumption
  case or1 => (dsimp only; omega)
  case mG =>
    intro q hq
    repeat (refine List.mem_cons_of_mem _ ?_)
    exact hq
  case hL => rfl
  case hh => rfl
  case hrng => assumption
  case hD => split <;> omega
  case hch => exact Box.mk (by omega)
  case jp => omega
  case yo0 => assumption
  case yo1 => assumption
  case y6a => simp
  case y6 => exact (List.forall_mem_cons.mpr ⟨by omega, List.forall_mem_cons.mpr ⟨by omega, List.forall_mem_cons.mpr ⟨by omega, List.forall_mem_cons.mpr ⟨by omega, List.forall_mem_cons.mpr ⟨by omega, List.forall_mem_cons.mpr ⟨by omega, List.forall_mem_nil _⟩⟩⟩⟩⟩⟩)
  case y01 => omega
  case y1n => omega
  case yG => (apply and9; assumption)
  case yhr => (apply and8; assumption)
  case jsz =>
    simp only [Array.size_append, Array.size_replicate, byteArr_size, List.length_cons, List.length_nil]
    omega
  case jne => exact first_tail rfl rfl (by rw [Array.size_replicate]; omega)
  case m01o => ((try dsimp only); omega)
  case m02o => ((try dsimp only); omega)
  case m03o => ((try dsimp only); omega)
  case m04o => ((try dsimp only); omega)
  case m05o => ((try dsimp only); omega)
  case m06o => ((try dsimp only); omega)
  case m07o => ((try dsimp only); omega)
  case m08o => ((try dsimp only); omega)
  case m11o => ((try dsimp only); omega)
  case m12o => ((try dsimp only); omega)
  case m13o => ((try dsimp only); omega)
  case m14o => ((try dsimp only); omega)
  case m15o => ((try dsimp only); omega)
  case m16o => ((try dsimp only); omega)
  case m17o => ((try dsimp only); omega)
  case m18o => ((try dsimp only); omega)
  case fin => ((repeat (rename _ => z9; revert z9)); exact fun x _ => x.out)
  case turn =>
    intro hfin hch hgs i t m₁ news₁ h tk' I oI hi hJ hoff F N
    ((repeat (rename _ => z9; revert z9)); exact fun _ x => x.out) : Dom1 Mine.lawA)
end
section
theorem eqi_same {prog : Program} {w : World} {A : Around} {E : Value → Shared → Prop} {s : Shared} {b c : Int} {t u : Tok} {Q : Value → Shared → Prop} (e : b = c) (h : Q (.bool true) s) : wpAny (model prog w) A (compareOp .Eq (.int b t) (.int c u)) Q E s := by
  subst e
  refine eq_int ?_
  rw [show (b == b) = true from by simp]
  exact h
theorem app_hyp {v0 km : Int} {P : Int → Prop} (h : ∀ v, P v → km = v) (hp : P v0) : km = v0 := h v0 hp
set_option maxHeartbeats 80000000 in
theorem lawF : Dom1 Mine.lawB := by
  unfold Dom1
  intros
  (repeat (with_reducible rename (@LT.lt Nat _ _ _ ∧ _) => hz9; clear hz9))
  intro km tm od ou of ol os ot h tk news F N hl hv
  have N2 := cb_drop N (List.forall_mem_cons.mpr ⟨hl, List.forall_mem_nil _⟩)
  clear N hl
  unfold lawM at F
  dsimp only
  repeat' (first | (k_unfold; (try dsimp only)) | (k_end; wrow_close) | (with_reducible first | (k_here; (with_reducible show wpAny _ _ (compareOp _ (Value.int _ _) (Value.int _ _)) _ _ _); (refine eqi_same (by apply app_hyp <;> assumption) ?_)) | ((with_reducible show wpAny _ _ (call (Value.ref _) _) _ _ _); ((with_reducible show wpAny _ _ (call (Value.ref 185) _) _ _ _); k_dflt ((k_here; k_dflt (refine' Does.read (most_does ?h0 ?h1 ?h2 ?h3 ?h4 ?h5) ?kr ?k1 ?k2 ?k3 ?k4 ?k5 ?kK ?kd ?ku (List.forall_mem_cons.mpr ⟨?maE, List.forall_mem_nil _⟩) ?_; (case kr => first | (intro _ _ hR; exact hR.2) | (intro _ _ _ q hq; cases hq)); (case k1 => k_asm); (case k2 => k_asm); (case k3 => k_asm); (case k4 => k_asm); (case k5 => k_asm); (case kK => first | exact rfl | assumption); (case kd => first | decide | ktr_room); (case ku => ktr_units))); (case maE => k_mem); (case h0 => omega); (case h1 => omega); (case h2 => omega); (case h3 => omega); (case h4 => omega); (case h5 => omega); (intro r9 post9 h9 tk9 hR9 F9 N9); (obtain ⟨⟨v9, t9, hm9, hr9⟩, hR9⟩ := hR9); (clear hR9); (subst hr9); (try dsimp only); (try k_fold)))) | ((with_reducible show wpAny _ _ (exec (Stmt.If _ _ _ _) _) _ _ _); (k_here; with_reducible refine wpAny_If ?_)) | ((with_reducible show wpAny _ _ (execs [] _) _ _ _); (k_here; (with_reducible refine gen_toks ?_); intro _; (with_reducible refine wpAny_execs_nil ?_))) | ((with_reducible show wpAny _ _ (execs (_ :: _) _) _ _ _); (k_here; (with_reducible refine gen_toks ?_); intro _; (with_reducible refine wpAny_execs_cons ?_); (try k_fold)))) | walk1 | (dsimp only) | (leave1; walk_say "STEP leave1"; try dsimp only) | fail "no step")
end
section
set_option maxHeartbeats 80000000 in
def lawT := fun (z0 : Hid _) (z1 : Hid _) => (by
  unfold Dom2
  intros
  (repeat (with_reducible rename (@LT.lt Nat _ _ _ ∧ _) => hz9; clear hz9))
  rename_i hfin hch hgs i t m₁ news₁ h tk' I oI hi hJ hoff F N
  have hch2 := hch.out
  obtain ⟨c1, c2, c3, c4, c5, c6⟩ := hch2
  obtain ⟨ok0, ok1, hG⟩ := hgs.out
  obtain ⟨km, pos, tp, tm, td, n, oc, v₀, dg, ou, of, ol, os, ot, Y, hm, hkm, hn, hc, hp, hY, hd, hjs, hi20⟩ := hJ
  subst hm
  subst hn
  unfold lawM at F
  obtain ⟨hIa, hIY⟩ := offI hoff
  have hYI := hY.withI hIY
  have hIb := hIa
  simp only [List.map_cons, List.map_nil, List.forall_mem_cons] at hIb
  obtain ⟨i1, i2, i3, i4, i5, i6, i7, _⟩ := hIb
  simp only [List.cons_append, List.nil_append] at N
  clear hoff hIY hY hch hgs
  have hst : StopIf := trivial
  rcases Nat.mod_two_eq_zero_or_one i with hpar | hpar
  · have hfm : (i : Int).fmod 2 = 0 := by rw [Int.fmod_eq_emod_of_nonneg _ (by decide)]; omega
    repeat' (first | (k_unfold; (try dsimp only)) | (k_end; wrow_close) | (with_reducible first | ((with_reducible show wpAny _ _ (getMethod (Value.ref _) _ _) _ _ _); (k_here; k_dflt (refine' method_end ?hE ?hsub ?k1 ?k2 ?kN ?k4 ?k5 ?k6 ?k7 ?_; (case hE => assumption); (case kN => k_asm); (case hsub => ((repeat (refine sub_cons ?_)); assumption)); (case k1 => k_asm); (case k2 => k_asm); (case k4 => k_is); (case k5 => k_is); (case k6 => k_is); (case k7 => (intro e9; k_get)); k_whole))) | ((with_reducible show wpAny _ _ (call (Value.ref _) _) _ _ _); ((with_reducible show wpAny _ _ (call (Value.ref _) [_, Value.bytes _ _]) _ _ _); k_dflt (k_here; (with_reducible rename Fr _ _ _ _ => F'); (with_reducible rename News _ _ _ _ => N'); (first | (refine' YS.set0 (lits := [_, _, _, _, _, _, _, _]) ?hY ?has ?ha ?k1 F' ?k3 N' ?k5 ?kK ?kd ?ku ?_; (case hY => assumption); (case has => rfl); (case ha => first | assumption | omega); (case k1 => k_asm); (case k3 => k_asm); (case k5 => k_asm); (case kK => exact rfl); (case kd => first | decide | ktr_room); (case ku => ktr_units)) | (refine' YS.set1 (lits := [_, _, _, _, _, _, _, _]) ?hY ?has ?ha ?k1 F' ?k3 N' ?k5 ?kK ?kd ?ku ?_; (case hY => assumption); (case has => rfl); (case ha => first | assumption | omega); (case k1 => k_asm); (case k3 => k_asm); (case k5 => k_asm); (case kK => exact rfl); (case kd => first | decide | ktr_room); (case ku => ktr_units))); (intro h9 tk9 Y9 hY9 hO9 F9 N9); (simp only [List.cons_append, List.nil_append] at N9); (try dsimp only); (try k_fold)))) | ((with_reducible show wpAny _ _ (binaryOp _ (Value.int _ _) (Value.int _ _)) _ _ _); (k_here; (refine' mod_my (by decide) ?hmA ?_; (case hmA => with_reducible assumption)); intro _ _)) | ((with_reducible show wpAny _ _ (exec (Stmt.If _ _ _ _) _) _ _ _); (first | ((with_reducible rename StopIf => hst9); (clear hst9); (refine hold_on ?_)) | (k_here; with_reducible refine wpAny_If ?_))) | ((with_reducible show wpAny _ _ (execs [] _) _ _ _); (k_here; (with_reducible refine gen_toks ?_); intro _; (with_reducible refine wpAny_execs_nil ?_))) | ((with_reducible show wpAny _ _ (execs (_ :: _) _) _ _ _); (k_here; (with_reducible refine gen_toks ?_); intro _; (with_reducible refine wpAny_execs_cons ?_); (try k_fold)))) | walk1 | (dsimp only) | (leave1; walk_say "STEP leave1"; try dsimp only) | fail "no step")
    all_goals ((repeat (rename _ => z9; revert z9)); exact fun x _ => x.out)
  · have hfm : (i : Int).fmod 2 = 1 := by rw [Int.fmod_eq_emod_of_nonneg _ (by decide)]; omega
    repeat' (first | (k_unfold; (try dsimp only)) | (k_end; wrow_close) | (with_reducible first | ((with_reducible show wpAny _ _ (getMethod (Value.ref _) _ _) _ _ _); (k_here; k_dflt (refine' method_end ?hE ?hsub ?k1 ?k2 ?kN ?k4 ?k5 ?k6 ?k7 ?_; (case hE => assumption); (case kN => k_asm); (case hsub => ((repeat (refine sub_cons ?_)); assumption)); (case k1 => k_asm); (case k2 => k_asm); (case k4 => k_is); (case k5 => k_is); (case k6 => k_is); (case k7 => (intro e9; k_get)); k_whole))) | ((with_reducible show wpAny _ _ (call (Value.ref _) _) _ _ _); ((with_reducible show wpAny _ _ (call (Value.ref _) [_, Value.bytes _ _]) _ _ _); k_dflt (k_here; (with_reducible rename Fr _ _ _ _ => F'); (with_reducible rename News _ _ _ _ => N'); (first | (refine' YS.set0 (lits := [_, _, _, _, _, _, _, _]) ?hY ?has ?ha ?k1 F' ?k3 N' ?k5 ?kK ?kd ?ku ?_; (case hY => assumption); (case has => rfl); (case ha => first | assumption | omega); (case k1 => k_asm); (case k3 => k_asm); (case k5 => k_asm); (case kK => exact rfl); (case kd => first | decide | ktr_room); (case ku => ktr_units)) | (refine' YS.set1 (lits := [_, _, _, _, _, _, _, _]) ?hY ?has ?ha ?k1 F' ?k3 N' ?k5 ?kK ?kd ?ku ?_; (case hY => assumption); (case has => rfl); (case ha => first | assumption | omega); (case k1 => k_asm); (case k3 => k_asm); (case k5 => k_asm); (case kK => exact rfl); (case kd => first | decide | ktr_room); (case ku => ktr_units))); (intro h9 tk9 Y9 hY9 hO9 F9 N9); (simp only [List.cons_append, List.nil_append] at N9); (try dsimp only); (try k_fold)))) | ((with_reducible show wpAny _ _ (binaryOp _ (Value.int _ _) (Value.int _ _)) _ _ _); (k_here; (refine' mod_my (by decide) ?hmA ?_; (case hmA => with_reducible assumption)); intro _ _)) | ((with_reducible show wpAny _ _ (exec (Stmt.If _ _ _ _) _) _ _ _); (first | ((with_reducible rename StopIf => hst9); (clear hst9); (refine hold_on ?_)) | (k_here; with_reducible refine wpAny_If ?_))) | ((with_reducible show wpAny _ _ (execs [] _) _ _ _); (k_here; (with_reducible refine gen_toks ?_); intro _; (with_reducible refine wpAny_execs_nil ?_))) | ((with_reducible show wpAny _ _ (execs (_ :: _) _) _ _ _); (k_here; (with_reducible refine gen_toks ?_); intro _; (with_reducible refine wpAny_execs_cons ?_); (try k_fold)))) | walk1 | (dsimp only) | (leave1; walk_say "STEP leave1"; try dsimp only) | fail "no step")
    all_goals ((repeat (rename _ => z9; revert z9)); exact fun _ x => x.out) : Dom2 Mine.lawB)
end
section
set_option maxHeartbeats 80000000 in
def lawU0 := fun (z0 : Hid _) => (by
  unfold Dom1
  intros
  unfold Hold
  (with_reducible rename Fr _ _ _ _ => F1)
  (with_reducible rename News _ _ _ _ => N1)
  (with_reducible rename YS _ _ _ _ _ _ _ _ _ _ _ => hY1)
  refine' mid_cut0 (lits := [_, _, _, _, _, _, _, _]) hY1 F1 N1 ?w1 ?w2
  case w1 =>
    obtain ⟨Ea, ka, hEa, hsa⟩ := hY1.end0
    repeat' (first | (k_unfold; (try dsimp only)) | (k_end; wrow_close) | (with_reducible first | ((with_reducible show wpAny _ _ (getMethod (Value.ref _) _ _) _ _ _); (k_here; k_dflt (refine' method_end ?hE ?hsub ?k1 ?k2 ?kN ?k4 ?k5 ?k6 ?k7 ?_; (case hE => assumption); (case kN => k_asm); (case hsub => ((repeat (refine sub_cons ?_)); assumption)); (case k1 => k_asm); (case k2 => k_asm); (case k4 => k_is); (case k5 => k_is); (case k6 => k_is); (case k7 => (intro e9; k_get)); k_whole))) | ((with_reducible show wpAny _ _ (call (Value.ref _) _) _ _ _); ((with_reducible show wpAny _ _ (call (Value.ref _) [_, Value.bytes _ _]) _ _ _); k_dflt (k_here; (with_reducible rename Fr _ _ _ _ => F'); (with_reducible rename News _ _ _ _ => N'); (first | (refine' YS.set0 (lits := [_, _, _, _, _, _, _, _]) ?hY ?has ?ha ?k1 F' ?k3 N' ?k5 ?kK ?kd ?ku ?_; (case hY => assumption); (case has => rfl); (case ha => first | assumption | omega); (case k1 => k_asm); (case k3 => k_asm); (case k5 => k_asm); (case kK => exact rfl); (case kd => first | decide | ktr_room); (case ku => ktr_units)) | (refine' YS.set1 (lits := [_, _, _, _, _, _, _, _]) ?hY ?has ?ha ?k1 F' ?k3 N' ?k5 ?kK ?kd ?ku ?_; (case hY => assumption); (case has => rfl); (case ha => first | assumption | omega); (case k1 => k_asm); (case k3 => k_asm); (case k5 => k_asm); (case kK => exact rfl); (case kd => first | decide | ktr_room); (case ku => ktr_units))); (intro h9 tk9 Y9 hY9 hO9 F9 N9); (simp only [List.cons_append, List.nil_append] at N9); (try dsimp only); (try k_fold)))) | ((with_reducible show wpAny _ _ (binaryOp _ (Value.int _ _) (Value.int _ _)) _ _ _); (k_here; (refine' mod_my (by decide) ?hmA ?_; (case hmA => with_reducible assumption)); intro _ _)) | ((with_reducible show wpAny _ _ (exec (Stmt.If _ _ _ _) _) _ _ _); (first | ((with_reducible rename StopIf => hst9); (clear hst9); (refine hold_on ?_)) | (k_here; with_reducible refine wpAny_If ?_))) | ((with_reducible show wpAny _ _ (execs [] _) _ _ _); (k_here; (with_reducible refine gen_toks ?_); intro _; (with_reducible refine wpAny_execs_nil ?_))) | ((with_reducible show wpAny _ _ (execs (_ :: _) _) _ _ _); (k_here; (with_reducible refine gen_toks ?_); intro _; (with_reducible refine wpAny_execs_cons ?_); (try k_fold)))) | walk1 | (dsimp only) | (leave1; walk_say "STEP leave1"; try dsimp only) | fail "no step")
    · with_reducible rename News _ _ _ _ => N2
      exact mid_end (lits := [_, _, _, _, _, _, _, _]) (by k_asm) N2 (by assumption) (by assumption)
    · exact mid_end (lits := [_, _, _, _, _, _, _, _]) (by k_asm) N1 hY1 (hY1.keep0 (Int.not_le.mp (by assumption)))
  case w2 =>
    intro h9 tk9 Y9 F9 N9 hY9 hO9
    simp only [List.cons_append, List.nil_append] at N9
    clear F1 N1 hY1
    ((repeat (rename _ => z9; revert z9)); exact fun x => x.out) : Dom1 Mine.lawT)
end
section
set_option maxHeartbeats 80000000 in
def lawU1 := fun (z0 : Hid _) => (by
  unfold Dom2
  intros
  unfold Hold
  (with_reducible rename Fr _ _ _ _ => F1)
  (with_reducible rename News _ _ _ _ => N1)
  (with_reducible rename YS _ _ _ _ _ _ _ _ _ _ _ => hY1)
  refine' mid_cut1 (lits := [_, _, _, _, _, _, _, _]) hY1 F1 N1 ?w1 ?w2
  case w1 =>
    obtain ⟨Ea, ka, hEa, hsa⟩ := hY1.end1
    repeat' (first | (k_unfold; (try dsimp only)) | (k_end; wrow_close) | (with_reducible first | ((with_reducible show wpAny _ _ (getMethod (Value.ref _) _ _) _ _ _); (k_here; k_dflt (refine' method_end ?hE ?hsub ?k1 ?k2 ?kN ?k4 ?k5 ?k6 ?k7 ?_; (case hE => assumption); (case kN => k_asm); (case hsub => ((repeat (refine sub_cons ?_)); assumption)); (case k1 => k_asm); (case k2 => k_asm); (case k4 => k_is); (case k5 => k_is); (case k6 => k_is); (case k7 => (intro e9; k_get)); k_whole))) | ((with_reducible show wpAny _ _ (call (Value.ref _) _) _ _ _); ((with_reducible show wpAny _ _ (call (Value.ref _) [_, Value.bytes _ _]) _ _ _); k_dflt (k_here; (with_reducible rename Fr _ _ _ _ => F'); (with_reducible rename News _ _ _ _ => N'); (first | (refine' YS.set0 (lits := [_, _, _, _, _, _, _, _]) ?hY ?has ?ha ?k1 F' ?k3 N' ?k5 ?kK ?kd ?ku ?_; (case hY => assumption); (case has => rfl); (case ha => first | assumption | omega); (case k1 => k_asm); (case k3 => k_asm); (case k5 => k_asm); (case kK => exact rfl); (case kd => first | decide | ktr_room); (case ku => ktr_units)) | (refine' YS.set1 (lits := [_, _, _, _, _, _, _, _]) ?hY ?has ?ha ?k1 F' ?k3 N' ?k5 ?kK ?kd ?ku ?_; (case hY => assumption); (case has => rfl); (case ha => first | assumption | omega); (case k1 => k_asm); (case k3 => k_asm); (case k5 => k_asm); (case kK => exact rfl); (case kd => first | decide | ktr_room); (case ku => ktr_units))); (intro h9 tk9 Y9 hY9 hO9 F9 N9); (simp only [List.cons_append, List.nil_append] at N9); (try dsimp only); (try k_fold)))) | ((with_reducible show wpAny _ _ (binaryOp _ (Value.int _ _) (Value.int _ _)) _ _ _); (k_here; (refine' mod_my (by decide) ?hmA ?_; (case hmA => with_reducible assumption)); intro _ _)) | ((with_reducible show wpAny _ _ (exec (Stmt.If _ _ _ _) _) _ _ _); (first | ((with_reducible rename StopIf => hst9); (clear hst9); (refine hold_on ?_)) | (k_here; with_reducible refine wpAny_If ?_))) | ((with_reducible show wpAny _ _ (execs [] _) _ _ _); (k_here; (with_reducible refine gen_toks ?_); intro _; (with_reducible refine wpAny_execs_nil ?_))) | ((with_reducible show wpAny _ _ (execs (_ :: _) _) _ _ _); (k_here; (with_reducible refine gen_toks ?_); intro _; (with_reducible refine wpAny_execs_cons ?_); (try k_fold)))) | walk1 | (dsimp only) | (leave1; walk_say "STEP leave1"; try dsimp only) | fail "no step")
    · with_reducible rename News _ _ _ _ => N2
      exact mid_end (lits := [_, _, _, _, _, _, _, _]) (by k_asm) N2 (by assumption) (by assumption)
    · exact mid_end (lits := [_, _, _, _, _, _, _, _]) (by k_asm) N1 hY1 (hY1.keep1 (Int.not_le.mp (by assumption)))
  case w2 =>
    intro h9 tk9 Y9 F9 N9 hY9 hO9
    simp only [List.cons_append, List.nil_append] at N9
    clear F1 N1 hY1
    ((repeat (rename _ => z9; revert z9)); exact fun x => x.out) : Dom2 Mine.lawT)
end
section
theorem le16 {x d : Int} (h : x = d) (h2 : d ≤ 42) : x - 16 ≤ (((42 : Int) - 0).toNat : Int) := by
  have : (((42 : Int) - 0).toNat : Int) = 42 := by decide
  omega
local macro_rules | `(tactic| k_all) => `(tactic| with_reducible assumption)
local macro_rules | `(tactic| tb_start) => `(tactic| first | exact Split.nil | (refine' Split.skip ?a ?b; (case a => k_mem); (case b => tb_start)) | (refine' Split.keep ?a ?b; (case a => tb_rel); (case b => tb_start)) | exact Split.off (List.forall_mem_cons.mpr ⟨by with_reducible assumption, List.forall_mem_cons.mpr ⟨by with_reducible assumption, List.forall_mem_nil _⟩⟩))
set_option maxHeartbeats 80000000 in
def lawV0 := fun (z0 : Hid _) (z1 : Hid _) (z2 : Hid _) => (by
  unfold Dom1
  intros
  (with_reducible rename DgIs _ _ _ _ _ _ => hd)
  (with_reducible rename Fin _ _ _ _ _ _ _ _ _ _ => hfin)
  (with_reducible rename (_ % 2 = _) => hpar)
  (with_reducible rename (_ ++ _ = _ ++ _) => hG)
  (with_reducible rename Fr _ _ _ _ => F1)
  (with_reducible rename News _ _ _ _ => N1)
  (with_reducible rename YS _ _ _ _ _ _ _ _ _ _ _ => hY1)
  (with_reducible rename OwnIs _ _ _ _ _ _ => hO1)
  obtain ⟨d, hdd, hd42, hdue, hb⟩ := due_is hd (by omega) rfl
  obtain ⟨Ea, ka, hEa, hsa⟩ := hY1.end0
  obtain ⟨E9, v9, hD9, hEY9, hvt, hvf⟩ := own_reset0 hpar hO1 hd hb
  have y1 := hY1.apart (List.mem_cons_of_mem _ (List.mem_cons_self ..))
  have y2 := hY1.apart (List.mem_cons_of_mem _ (List.mem_cons_of_mem _ (List.mem_cons_self ..)))
  have y3 := hY1.apart (List.mem_cons_of_mem _ (List.mem_cons_of_mem _ (List.mem_cons_of_mem _ (List.mem_cons_self ..))))
  obtain ⟨gh, gh'⟩ := hY1.hears hG
  cases v9
  case true =>
    obtain ⟨h1i, hai⟩ := hvt rfl
    clear hvt hvf
    repeat' (first | (k_unfold; (try dsimp only)) | (k_end; wrow_close) | (with_reducible first | (k_here; (with_reducible show wpAny _ _ (compareOp _ (Value.int _ _) (Value.int _ _)) _ _ _); first | (refine lti_yes (lt_if (by assumption) (by assumption)) ?_) | (refine lti_no (nlt_if (by assumption) (by assumption)) ?_)) | ((with_reducible show wpAny _ _ (call (Value.ref _) _) _ _ _); (first | ((with_reducible show wpAny _ _ (call (Value.ref 180) _) _ _ _); k_dflt (k_here; (refine' Does.read (heard3_does ?ho ?hq ?h1 ?h2 ?ht ?hf ?hU ?hZ) ?kr ?k1 ?k2 ?k3 ?k4 ?k5 ?kK ?kd ?ku ?ks ?_; (case ho => assumption); (case hq => assumption); (case kr => (intro _ _ hR; exact hR.2)); (case k1 => k_asm); (case k2 => k_asm); (case k3 => k_asm); (case k4 => k_asm); (case k5 => k_asm); (case kK => exact rfl); (case kd => first | decide | ktr_room); (case ku => ktr_units); (case ks => ((repeat (refine sub_cons ?_)); assumption)); (case h1 => exact ge_if (by assumption) (by assumption)); (case h2 => exact le_if (by assumption) (by assumption)); (case ht => exact tok_size _ _ _); (case hf => (rw [byteArr_size, List.length_map, rangeKs_length]; decide)); (case hU => first | exact tok_ne (by omega) (by omega) (by omega) (by omega) | exact Ne.symm (tok_ne (by omega) (by omega) (by omega) (by omega))); (case hZ => exact tok_zeros)); (intro r9 post9 h9 tk9 hR9 F9 N9); (have hR8 := hR9.1); (clear hR9); (subst hR8); (try dsimp only); (try k_fold))) | ((with_reducible show wpAny _ _ (call (Value.ref 175) _) _ _ _); k_dflt ((k_here; k_dflt (refine' Does.read (right3_does ?h1 ?h2 ?ht ?hf) ?kr ?k1 ?k2 ?k3 ?k4 ?k5 ?kK ?kd ?ku ?ks ?_; (case kr => first | (intro _ _ hR; exact hR.2) | (intro _ _ _ q hq; cases hq)); (case k1 => k_asm); (case k2 => k_asm); (case k3 => k_asm); (case k4 => k_asm); (case k5 => k_asm); (case kK => first | exact rfl | assumption); (case kd => first | decide | ktr_room); (case ku => ktr_units); (case ks => first | (dsimp only [sh]; (refine' List.forall_mem_cons.mpr ⟨?ma, List.forall_mem_cons.mpr ⟨?mb, List.forall_mem_cons.mpr ⟨?mc, List.forall_mem_cons.mpr ⟨?md, List.forall_mem_cons.mpr ⟨?me, List.forall_mem_nil _⟩⟩⟩⟩⟩); (case ma => k_mem); (case mb => k_mem); (case mc => k_mem); (case md => k_mem); (case me => k_mem)) | (intro q hq; cases hq)))); (case h1 => exact ge_if (by assumption) (by assumption)); (case h2 => exact le_if (by assumption) (by assumption)); (case ht => exact tok_size _ _ _); (case hf => (rw [byteArr_size, List.length_map, rangeKs_length]; decide)); (intro r9 post9 h9 tk9 hR9 F9 N9); (subst hR9); (try dsimp only); (try k_fold))) | ((with_reducible show wpAny _ _ (call (Value.ref 28) _) _ _ _); k_dflt ((k_here; k_dflt (refine' Does.read (resetSome_does ?hb ?hf ?hd ?h1 ?h2) ?kr ?k1 ?k2 ?k3 ?k4 ?k5 ?kK ?kd ?ku ?ks ?_; (case kr => first | (intro _ _ hR; exact hR.2) | (intro _ _ _ q hq; cases hq)); (case k1 => k_asm); (case k2 => k_asm); (case k3 => k_asm); (case k4 => k_asm); (case k5 => k_asm); (case kK => first | exact rfl | assumption); (case kd => first | decide | ktr_room); (case ku => ktr_units); (case ks => first | (dsimp only [sh]; (refine' List.forall_mem_cons.mpr ⟨?ma, List.forall_mem_cons.mpr ⟨?mb, List.forall_mem_cons.mpr ⟨?mc, List.forall_mem_cons.mpr ⟨?md, List.forall_mem_cons.mpr ⟨?me, List.forall_mem_nil _⟩⟩⟩⟩⟩); (case ma => k_mem); (case mb => k_mem); (case mc => k_mem); (case md => k_mem); (case me => k_mem)) | (intro q hq; cases hq)))); (case hb => exact tok_size _ _ _); (case hf => (rw [byteArr_size, List.length_map, rangeKs_length]; decide)); (case hd => exact rfl); (case h1 => exact ge_if (by assumption) (by assumption)); (case h2 => (rw [byteArr_size, List.length_map, rangeKs_length]; exact le16 (by assumption) (by assumption))); (intro r9 post9 h9 tk9 hR9 F9 N9); (obtain ⟨t9, hR9⟩ := hR9); (subst hR9); (try dsimp only); (try k_fold))) | ((with_reducible show wpAny _ _ (call (Value.ref 28) _) _ _ _); k_dflt ((k_here; k_dflt (refine' Does.read (resetNone_does ?hb ?hf ?h) ?kr ?k1 ?k2 ?k3 ?k4 ?k5 ?kK ?kd ?ku ?ks ?_; (case kr => first | (intro _ _ hR; exact hR.2) | (intro _ _ _ q hq; cases hq)); (case k1 => k_asm); (case k2 => k_asm); (case k3 => k_asm); (case k4 => k_asm); (case k5 => k_asm); (case kK => first | exact rfl | assumption); (case kd => first | decide | ktr_room); (case ku => ktr_units); (case ks => first | (dsimp only [sh]; (refine' List.forall_mem_cons.mpr ⟨?ma, List.forall_mem_cons.mpr ⟨?mb, List.forall_mem_cons.mpr ⟨?mc, List.forall_mem_cons.mpr ⟨?md, List.forall_mem_cons.mpr ⟨?me, List.forall_mem_nil _⟩⟩⟩⟩⟩); (case ma => k_mem); (case mb => k_mem); (case mc => k_mem); (case md => k_mem); (case me => k_mem)) | (intro q hq; cases hq)))); (case hb => (rw [tok_size]; decide)); (case hf => (rw [byteArr_size, List.length_map, rangeKs_length]; decide)); (case h => exact .inl (lt_if (by assumption) (by assumption))); (intro r9 post9 h9 tk9 hR9 F9 N9); (subst hR9); (try dsimp only); (try k_fold))) | ((with_reducible show wpAny _ _ (call (Value.ref 156) _) _ _ _); k_dflt ((k_here; k_dflt (refine' Does.split (take_does ?hi ?hne ?hl ?h0 ?h1 ?hm ?hm2) ?k1 ?k2 ?k3 ?k4 ?k5 ?kK ?kd ?ku (List.forall_mem_cons.mpr ⟨?maG, List.forall_mem_cons.mpr ⟨?mbG, List.forall_mem_nil _⟩⟩) ?ksp ?_; (case k1 => k_asm); (case k2 => k_asm); (case k3 => k_asm); (case k4 => k_asm); (case k5 => k_asm); (case kK => first | exact rfl | assumption); (case kd => first | decide | ktr_room); (case ku => ktr_units))); (case maG => k_mem); (case mbG => k_mem); (case hi => assumption); (case hne => omega); (case hl => first | assumption | (rw [List.length_take]; omega)); (case h0 => omega); (case h1 => omega); (case hm => decide); (case hm2 => decide); (case ksp => (simp only [List.map_cons, List.map_nil]; tb_start)); (intro r9 post9 h9 tk9 hR9 F9 N9); (obtain ⟨v9, t9, t8, n9, lo9, hi9, hr9, hp9⟩ := hR9); (subst hr9); (subst hp9); (simp only [List.cons_append, List.nil_append] at N9); (try dsimp only); (try k_fold))) | ((with_reducible show wpAny _ _ (call (Value.ref 142) _) _ _ _); k_dflt (k_here; (refine' Does.read ?hD ?kr ?k1 ?k2 ?k3 ?k4 ?k5 ?kK ?kd ?ku ?ks ?_; (case hD => (with_reducible rename (∀ _ : Tok, Does _ _ _ _ _ _) => hDq; exact hDq _)); (case kr => (intro _ _ hR; exact hR.2)); (case k1 => k_asm); (case k2 => k_asm); (case k3 => k_asm); (case k4 => k_asm); (case k5 => k_asm); (case kK => exact rfl); (case kd => first | decide | ktr_room); (case ku => ktr_units); (case ks => ((repeat (refine sub_cons ?_)); assumption))); (intro r9 post9 h9 tk9 hR9 F9 N9); (have hR8 := hR9.1); (clear hR9); (subst hR8); (try dsimp only); (try k_fold))))) | (k_here; (with_reducible show wpAny _ _ (call (Value.type "bytes") [Value.ref _]) _ _ _); k_dflt (refine' KBa.make_K ?kbaF ?kbaN ?kbah ?kbal ?kbai ?kbar ?kban ?_; (case kbaF => k_asm); (case kbaN => k_asm); (case kbah => rfl); (case kbal => is_list); (case kbai => with_reducible assumption); (case kbar => (intro n9 hn9; obtain ⟨k9, _, e9⟩ := List.mem_map.mp hn9; subst e9; exact ⟨Int.fmod_nonneg_of_pos _ (by decide), Int.fmod_lt_of_pos _ (by decide)⟩)); (case kban => (simp only [List.length_map, rangeKs_length]; decide))); intro h' t' k' F' N' hb') | ((with_reducible show wpAny _ _ (getMethod (Value.ref _) _ _) _ _ _); (k_here; k_dflt (refine' method_end ?hE ?hsub ?k1 ?k2 ?kN ?k4 ?k5 ?k6 ?k7 ?_; (case hE => assumption); (case kN => k_asm); (case hsub => ((repeat (refine sub_cons ?_)); assumption)); (case k1 => k_asm); (case k2 => k_asm); (case k4 => k_is); (case k5 => k_is); (case k6 => k_is); (case k7 => (intro e9; k_get)); k_whole))) | ((with_reducible show wpAny _ _ (exec (Stmt.If _ _ _ _) _) _ _ _); (k_here; with_reducible refine wpAny_If ?_)) | ((with_reducible show wpAny _ _ (execs [] _) _ _ _); (k_here; (with_reducible refine gen_toks ?_); intro _; (with_reducible refine wpAny_execs_nil ?_))) | ((with_reducible show wpAny _ _ (execs (_ :: _) _) _ _ _); (k_here; (with_reducible refine gen_toks ?_); intro _; (with_reducible refine wpAny_execs_cons ?_); (try k_fold)))) | walk1 | (dsimp only) | (leave1; walk_say "STEP leave1"; try dsimp only) | fail "no step")
    all_goals ((repeat (rename _ => z9; revert z9)); exact fun x _ _ => x.out)
  case false =>
    have hvn := hvf rfl
    clear hvt hvf
    rcases Int.lt_or_le d 21 with hd21 | hd21
    · repeat' (first | (k_unfold; (try dsimp only)) | (k_end; wrow_close) | (with_reducible first | (k_here; (with_reducible show wpAny _ _ (compareOp _ (Value.int _ _) (Value.int _ _)) _ _ _); first | (refine lti_yes (lt_if (by assumption) (by assumption)) ?_) | (refine lti_no (nlt_if (by assumption) (by assumption)) ?_)) | ((with_reducible show wpAny _ _ (call (Value.ref _) _) _ _ _); (first | ((with_reducible show wpAny _ _ (call (Value.ref 180) _) _ _ _); k_dflt (k_here; (refine' Does.read (heard3_does ?ho ?hq ?h1 ?h2 ?ht ?hf ?hU ?hZ) ?kr ?k1 ?k2 ?k3 ?k4 ?k5 ?kK ?kd ?ku ?ks ?_; (case ho => assumption); (case hq => assumption); (case kr => (intro _ _ hR; exact hR.2)); (case k1 => k_asm); (case k2 => k_asm); (case k3 => k_asm); (case k4 => k_asm); (case k5 => k_asm); (case kK => exact rfl); (case kd => first | decide | ktr_room); (case ku => ktr_units); (case ks => ((repeat (refine sub_cons ?_)); assumption)); (case h1 => exact ge_if (by assumption) (by assumption)); (case h2 => exact le_if (by assumption) (by assumption)); (case ht => exact tok_size _ _ _); (case hf => (rw [byteArr_size, List.length_map, rangeKs_length]; decide)); (case hU => first | exact tok_ne (by omega) (by omega) (by omega) (by omega) | exact Ne.symm (tok_ne (by omega) (by omega) (by omega) (by omega))); (case hZ => exact tok_zeros)); (intro r9 post9 h9 tk9 hR9 F9 N9); (have hR8 := hR9.1); (clear hR9); (subst hR8); (try dsimp only); (try k_fold))) | ((with_reducible show wpAny _ _ (call (Value.ref 175) _) _ _ _); k_dflt ((k_here; k_dflt (refine' Does.read (right3_does ?h1 ?h2 ?ht ?hf) ?kr ?k1 ?k2 ?k3 ?k4 ?k5 ?kK ?kd ?ku ?ks ?_; (case kr => first | (intro _ _ hR; exact hR.2) | (intro _ _ _ q hq; cases hq)); (case k1 => k_asm); (case k2 => k_asm); (case k3 => k_asm); (case k4 => k_asm); (case k5 => k_asm); (case kK => first | exact rfl | assumption); (case kd => first | decide | ktr_room); (case ku => ktr_units); (case ks => first | (dsimp only [sh]; (refine' List.forall_mem_cons.mpr ⟨?ma, List.forall_mem_cons.mpr ⟨?mb, List.forall_mem_cons.mpr ⟨?mc, List.forall_mem_cons.mpr ⟨?md, List.forall_mem_cons.mpr ⟨?me, List.forall_mem_nil _⟩⟩⟩⟩⟩); (case ma => k_mem); (case mb => k_mem); (case mc => k_mem); (case md => k_mem); (case me => k_mem)) | (intro q hq; cases hq)))); (case h1 => exact ge_if (by assumption) (by assumption)); (case h2 => exact le_if (by assumption) (by assumption)); (case ht => exact tok_size _ _ _); (case hf => (rw [byteArr_size, List.length_map, rangeKs_length]; decide)); (intro r9 post9 h9 tk9 hR9 F9 N9); (subst hR9); (try dsimp only); (try k_fold))) | ((with_reducible show wpAny _ _ (call (Value.ref 28) _) _ _ _); k_dflt ((k_here; k_dflt (refine' Does.read (resetSome_does ?hb ?hf ?hd ?h1 ?h2) ?kr ?k1 ?k2 ?k3 ?k4 ?k5 ?kK ?kd ?ku ?ks ?_; (case kr => first | (intro _ _ hR; exact hR.2) | (intro _ _ _ q hq; cases hq)); (case k1 => k_asm); (case k2 => k_asm); (case k3 => k_asm); (case k4 => k_asm); (case k5 => k_asm); (case kK => first | exact rfl | assumption); (case kd => first | decide | ktr_room); (case ku => ktr_units); (case ks => first | (dsimp only [sh]; (refine' List.forall_mem_cons.mpr ⟨?ma, List.forall_mem_cons.mpr ⟨?mb, List.forall_mem_cons.mpr ⟨?mc, List.forall_mem_cons.mpr ⟨?md, List.forall_mem_cons.mpr ⟨?me, List.forall_mem_nil _⟩⟩⟩⟩⟩); (case ma => k_mem); (case mb => k_mem); (case mc => k_mem); (case md => k_mem); (case me => k_mem)) | (intro q hq; cases hq)))); (case hb => exact tok_size _ _ _); (case hf => (rw [byteArr_size, List.length_map, rangeKs_length]; decide)); (case hd => exact rfl); (case h1 => exact ge_if (by assumption) (by assumption)); (case h2 => (rw [byteArr_size, List.length_map, rangeKs_length]; exact le16 (by assumption) (by assumption))); (intro r9 post9 h9 tk9 hR9 F9 N9); (obtain ⟨t9, hR9⟩ := hR9); (subst hR9); (try dsimp only); (try k_fold))) | ((with_reducible show wpAny _ _ (call (Value.ref 28) _) _ _ _); k_dflt ((k_here; k_dflt (refine' Does.read (resetNone_does ?hb ?hf ?h) ?kr ?k1 ?k2 ?k3 ?k4 ?k5 ?kK ?kd ?ku ?ks ?_; (case kr => first | (intro _ _ hR; exact hR.2) | (intro _ _ _ q hq; cases hq)); (case k1 => k_asm); (case k2 => k_asm); (case k3 => k_asm); (case k4 => k_asm); (case k5 => k_asm); (case kK => first | exact rfl | assumption); (case kd => first | decide | ktr_room); (case ku => ktr_units); (case ks => first | (dsimp only [sh]; (refine' List.forall_mem_cons.mpr ⟨?ma, List.forall_mem_cons.mpr ⟨?mb, List.forall_mem_cons.mpr ⟨?mc, List.forall_mem_cons.mpr ⟨?md, List.forall_mem_cons.mpr ⟨?me, List.forall_mem_nil _⟩⟩⟩⟩⟩); (case ma => k_mem); (case mb => k_mem); (case mc => k_mem); (case md => k_mem); (case me => k_mem)) | (intro q hq; cases hq)))); (case hb => (rw [tok_size]; decide)); (case hf => (rw [byteArr_size, List.length_map, rangeKs_length]; decide)); (case h => exact .inl (lt_if (by assumption) (by assumption))); (intro r9 post9 h9 tk9 hR9 F9 N9); (subst hR9); (try dsimp only); (try k_fold))) | ((with_reducible show wpAny _ _ (call (Value.ref 156) _) _ _ _); k_dflt ((k_here; k_dflt (refine' Does.split (take_does ?hi ?hne ?hl ?h0 ?h1 ?hm ?hm2) ?k1 ?k2 ?k3 ?k4 ?k5 ?kK ?kd ?ku (List.forall_mem_cons.mpr ⟨?maG, List.forall_mem_cons.mpr ⟨?mbG, List.forall_mem_nil _⟩⟩) ?ksp ?_; (case k1 => k_asm); (case k2 => k_asm); (case k3 => k_asm); (case k4 => k_asm); (case k5 => k_asm); (case kK => first | exact rfl | assumption); (case kd => first | decide | ktr_room); (case ku => ktr_units))); (case maG => k_mem); (case mbG => k_mem); (case hi => assumption); (case hne => omega); (case hl => first | assumption | (rw [List.length_take]; omega)); (case h0 => omega); (case h1 => omega); (case hm => decide); (case hm2 => decide); (case ksp => (simp only [List.map_cons, List.map_nil]; tb_start)); (intro r9 post9 h9 tk9 hR9 F9 N9); (obtain ⟨v9, t9, t8, n9, lo9, hi9, hr9, hp9⟩ := hR9); (subst hr9); (subst hp9); (simp only [List.cons_append, List.nil_append] at N9); (try dsimp only); (try k_fold))) | ((with_reducible show wpAny _ _ (call (Value.ref 142) _) _ _ _); k_dflt (k_here; (refine' Does.read ?hD ?kr ?k1 ?k2 ?k3 ?k4 ?k5 ?kK ?kd ?ku ?ks ?_; (case hD => (with_reducible rename (∀ _ : Tok, Does _ _ _ _ _ _) => hDq; exact hDq _)); (case kr => (intro _ _ hR; exact hR.2)); (case k1 => k_asm); (case k2 => k_asm); (case k3 => k_asm); (case k4 => k_asm); (case k5 => k_asm); (case kK => exact rfl); (case kd => first | decide | ktr_room); (case ku => ktr_units); (case ks => ((repeat (refine sub_cons ?_)); assumption))); (intro r9 post9 h9 tk9 hR9 F9 N9); (have hR8 := hR9.1); (clear hR9); (subst hR8); (try dsimp only); (try k_fold))))) | (k_here; (with_reducible show wpAny _ _ (call (Value.type "bytes") [Value.ref _]) _ _ _); k_dflt (refine' KBa.make_K ?kbaF ?kbaN ?kbah ?kbal ?kbai ?kbar ?kban ?_; (case kbaF => k_asm); (case kbaN => k_asm); (case kbah => rfl); (case kbal => is_list); (case kbai => with_reducible assumption); (case kbar => (intro n9 hn9; obtain ⟨k9, _, e9⟩ := List.mem_map.mp hn9; subst e9; exact ⟨Int.fmod_nonneg_of_pos _ (by decide), Int.fmod_lt_of_pos _ (by decide)⟩)); (case kban => (simp only [List.length_map, rangeKs_length]; decide))); intro h' t' k' F' N' hb') | ((with_reducible show wpAny _ _ (getMethod (Value.ref _) _ _) _ _ _); (k_here; k_dflt (refine' method_end ?hE ?hsub ?k1 ?k2 ?kN ?k4 ?k5 ?k6 ?k7 ?_; (case hE => assumption); (case kN => k_asm); (case hsub => ((repeat (refine sub_cons ?_)); assumption)); (case k1 => k_asm); (case k2 => k_asm); (case k4 => k_is); (case k5 => k_is); (case k6 => k_is); (case k7 => (intro e9; k_get)); k_whole))) | ((with_reducible show wpAny _ _ (exec (Stmt.If _ _ _ _) _) _ _ _); (k_here; with_reducible refine wpAny_If ?_)) | ((with_reducible show wpAny _ _ (execs [] _) _ _ _); (k_here; (with_reducible refine gen_toks ?_); intro _; (with_reducible refine wpAny_execs_nil ?_))) | ((with_reducible show wpAny _ _ (execs (_ :: _) _) _ _ _); (k_here; (with_reducible refine gen_toks ?_); intro _; (with_reducible refine wpAny_execs_cons ?_); (try k_fold)))) | walk1 | (dsimp only) | (leave1; walk_say "STEP leave1"; try dsimp only) | fail "no step")
      all_goals ((repeat (rename _ => z9; revert z9)); exact fun _ x _ => x.out)
    · repeat' (first | (k_unfold; (try dsimp only)) | (k_end; wrow_close) | (with_reducible first | (k_here; (with_reducible show wpAny _ _ (compareOp _ (Value.int _ _) (Value.int _ _)) _ _ _); first | (refine lti_yes (lt_if (by assumption) (by assumption)) ?_) | (refine lti_no (nlt_if (by assumption) (by assumption)) ?_)) | ((with_reducible show wpAny _ _ (call (Value.ref _) _) _ _ _); (first | ((with_reducible show wpAny _ _ (call (Value.ref 180) _) _ _ _); k_dflt (k_here; (refine' Does.read (heard3_does ?ho ?hq ?h1 ?h2 ?ht ?hf ?hU ?hZ) ?kr ?k1 ?k2 ?k3 ?k4 ?k5 ?kK ?kd ?ku ?ks ?_; (case ho => assumption); (case hq => assumption); (case kr => (intro _ _ hR; exact hR.2)); (case k1 => k_asm); (case k2 => k_asm); (case k3 => k_asm); (case k4 => k_asm); (case k5 => k_asm); (case kK => exact rfl); (case kd => first | decide | ktr_room); (case ku => ktr_units); (case ks => ((repeat (refine sub_cons ?_)); assumption)); (case h1 => exact ge_if (by assumption) (by assumption)); (case h2 => exact le_if (by assumption) (by assumption)); (case ht => exact tok_size _ _ _); (case hf => (rw [byteArr_size, List.length_map, rangeKs_length]; decide)); (case hU => first | exact tok_ne (by omega) (by omega) (by omega) (by omega) | exact Ne.symm (tok_ne (by omega) (by omega) (by omega) (by omega))); (case hZ => exact tok_zeros)); (intro r9 post9 h9 tk9 hR9 F9 N9); (have hR8 := hR9.1); (clear hR9); (subst hR8); (try dsimp only); (try k_fold))) | ((with_reducible show wpAny _ _ (call (Value.ref 175) _) _ _ _); k_dflt ((k_here; k_dflt (refine' Does.read (right3_does ?h1 ?h2 ?ht ?hf) ?kr ?k1 ?k2 ?k3 ?k4 ?k5 ?kK ?kd ?ku ?ks ?_; (case kr => first | (intro _ _ hR; exact hR.2) | (intro _ _ _ q hq; cases hq)); (case k1 => k_asm); (case k2 => k_asm); (case k3 => k_asm); (case k4 => k_asm); (case k5 => k_asm); (case kK => first | exact rfl | assumption); (case kd => first | decide | ktr_room); (case ku => ktr_units); (case ks => first | (dsimp only [sh]; (refine' List.forall_mem_cons.mpr ⟨?ma, List.forall_mem_cons.mpr ⟨?mb, List.forall_mem_cons.mpr ⟨?mc, List.forall_mem_cons.mpr ⟨?md, List.forall_mem_cons.mpr ⟨?me, List.forall_mem_nil _⟩⟩⟩⟩⟩); (case ma => k_mem); (case mb => k_mem); (case mc => k_mem); (case md => k_mem); (case me => k_mem)) | (intro q hq; cases hq)))); (case h1 => exact ge_if (by assumption) (by assumption)); (case h2 => exact le_if (by assumption) (by assumption)); (case ht => exact tok_size _ _ _); (case hf => (rw [byteArr_size, List.length_map, rangeKs_length]; decide)); (intro r9 post9 h9 tk9 hR9 F9 N9); (subst hR9); (try dsimp only); (try k_fold))) | ((with_reducible show wpAny _ _ (call (Value.ref 28) _) _ _ _); k_dflt ((k_here; k_dflt (refine' Does.read (resetSome_does ?hb ?hf ?hd ?h1 ?h2) ?kr ?k1 ?k2 ?k3 ?k4 ?k5 ?kK ?kd ?ku ?ks ?_; (case kr => first | (intro _ _ hR; exact hR.2) | (intro _ _ _ q hq; cases hq)); (case k1 => k_asm); (case k2 => k_asm); (case k3 => k_asm); (case k4 => k_asm); (case k5 => k_asm); (case kK => first | exact rfl | assumption); (case kd => first | decide | ktr_room); (case ku => ktr_units); (case ks => first | (dsimp only [sh]; (refine' List.forall_mem_cons.mpr ⟨?ma, List.forall_mem_cons.mpr ⟨?mb, List.forall_mem_cons.mpr ⟨?mc, List.forall_mem_cons.mpr ⟨?md, List.forall_mem_cons.mpr ⟨?me, List.forall_mem_nil _⟩⟩⟩⟩⟩); (case ma => k_mem); (case mb => k_mem); (case mc => k_mem); (case md => k_mem); (case me => k_mem)) | (intro q hq; cases hq)))); (case hb => exact tok_size _ _ _); (case hf => (rw [byteArr_size, List.length_map, rangeKs_length]; decide)); (case hd => exact rfl); (case h1 => exact ge_if (by assumption) (by assumption)); (case h2 => (rw [byteArr_size, List.length_map, rangeKs_length]; exact le16 (by assumption) (by assumption))); (intro r9 post9 h9 tk9 hR9 F9 N9); (obtain ⟨t9, hR9⟩ := hR9); (subst hR9); (try dsimp only); (try k_fold))) | ((with_reducible show wpAny _ _ (call (Value.ref 28) _) _ _ _); k_dflt ((k_here; k_dflt (refine' Does.read (resetNone_does ?hb ?hf ?h) ?kr ?k1 ?k2 ?k3 ?k4 ?k5 ?kK ?kd ?ku ?ks ?_; (case kr => first | (intro _ _ hR; exact hR.2) | (intro _ _ _ q hq; cases hq)); (case k1 => k_asm); (case k2 => k_asm); (case k3 => k_asm); (case k4 => k_asm); (case k5 => k_asm); (case kK => first | exact rfl | assumption); (case kd => first | decide | ktr_room); (case ku => ktr_units); (case ks => first | (dsimp only [sh]; (refine' List.forall_mem_cons.mpr ⟨?ma, List.forall_mem_cons.mpr ⟨?mb, List.forall_mem_cons.mpr ⟨?mc, List.forall_mem_cons.mpr ⟨?md, List.forall_mem_cons.mpr ⟨?me, List.forall_mem_nil _⟩⟩⟩⟩⟩); (case ma => k_mem); (case mb => k_mem); (case mc => k_mem); (case md => k_mem); (case me => k_mem)) | (intro q hq; cases hq)))); (case hb => (rw [tok_size]; decide)); (case hf => (rw [byteArr_size, List.length_map, rangeKs_length]; decide)); (case h => exact .inl (lt_if (by assumption) (by assumption))); (intro r9 post9 h9 tk9 hR9 F9 N9); (subst hR9); (try dsimp only); (try k_fold))) | ((with_reducible show wpAny _ _ (call (Value.ref 156) _) _ _ _); k_dflt ((k_here; k_dflt (refine' Does.split (take_does ?hi ?hne ?hl ?h0 ?h1 ?hm ?hm2) ?k1 ?k2 ?k3 ?k4 ?k5 ?kK ?kd ?ku (List.forall_mem_cons.mpr ⟨?maG, List.forall_mem_cons.mpr ⟨?mbG, List.forall_mem_nil _⟩⟩) ?ksp ?_; (case k1 => k_asm); (case k2 => k_asm); (case k3 => k_asm); (case k4 => k_asm); (case k5 => k_asm); (case kK => first | exact rfl | assumption); (case kd => first | decide | ktr_room); (case ku => ktr_units))); (case maG => k_mem); (case mbG => k_mem); (case hi => assumption); (case hne => omega); (case hl => first | assumption | (rw [List.length_take]; omega)); (case h0 => omega); (case h1 => omega); (case hm => decide); (case hm2 => decide); (case ksp => (simp only [List.map_cons, List.map_nil]; tb_start)); (intro r9 post9 h9 tk9 hR9 F9 N9); (obtain ⟨v9, t9, t8, n9, lo9, hi9, hr9, hp9⟩ := hR9); (subst hr9); (subst hp9); (simp only [List.cons_append, List.nil_append] at N9); (try dsimp only); (try k_fold))) | ((with_reducible show wpAny _ _ (call (Value.ref 142) _) _ _ _); k_dflt (k_here; (refine' Does.read ?hD ?kr ?k1 ?k2 ?k3 ?k4 ?k5 ?kK ?kd ?ku ?ks ?_; (case hD => (with_reducible rename (∀ _ : Tok, Does _ _ _ _ _ _) => hDq; exact hDq _)); (case kr => (intro _ _ hR; exact hR.2)); (case k1 => k_asm); (case k2 => k_asm); (case k3 => k_asm); (case k4 => k_asm); (case k5 => k_asm); (case kK => exact rfl); (case kd => first | decide | ktr_room); (case ku => ktr_units); (case ks => ((repeat (refine sub_cons ?_)); assumption))); (intro r9 post9 h9 tk9 hR9 F9 N9); (have hR8 := hR9.1); (clear hR9); (subst hR8); (try dsimp only); (try k_fold))))) | (k_here; (with_reducible show wpAny _ _ (call (Value.type "bytes") [Value.ref _]) _ _ _); k_dflt (refine' KBa.make_K ?kbaF ?kbaN ?kbah ?kbal ?kbai ?kbar ?kban ?_; (case kbaF => k_asm); (case kbaN => k_asm); (case kbah => rfl); (case kbal => is_list); (case kbai => with_reducible assumption); (case kbar => (intro n9 hn9; obtain ⟨k9, _, e9⟩ := List.mem_map.mp hn9; subst e9; exact ⟨Int.fmod_nonneg_of_pos _ (by decide), Int.fmod_lt_of_pos _ (by decide)⟩)); (case kban => (simp only [List.length_map, rangeKs_length]; decide))); intro h' t' k' F' N' hb') | ((with_reducible show wpAny _ _ (getMethod (Value.ref _) _ _) _ _ _); (k_here; k_dflt (refine' method_end ?hE ?hsub ?k1 ?k2 ?kN ?k4 ?k5 ?k6 ?k7 ?_; (case hE => assumption); (case kN => k_asm); (case hsub => ((repeat (refine sub_cons ?_)); assumption)); (case k1 => k_asm); (case k2 => k_asm); (case k4 => k_is); (case k5 => k_is); (case k6 => k_is); (case k7 => (intro e9; k_get)); k_whole))) | ((with_reducible show wpAny _ _ (exec (Stmt.If _ _ _ _) _) _ _ _); (k_here; with_reducible refine wpAny_If ?_)) | ((with_reducible show wpAny _ _ (execs [] _) _ _ _); (k_here; (with_reducible refine gen_toks ?_); intro _; (with_reducible refine wpAny_execs_nil ?_))) | ((with_reducible show wpAny _ _ (execs (_ :: _) _) _ _ _); (k_here; (with_reducible refine gen_toks ?_); intro _; (with_reducible refine wpAny_execs_cons ?_); (try k_fold)))) | walk1 | (dsimp only) | (leave1; walk_say "STEP leave1"; try dsimp only) | fail "no step")
      all_goals ((repeat (rename _ => z9; revert z9)); exact fun _ _ x => x.out) : Dom1 Mine.lawU0)
end
section
local macro_rules | `(tactic| k_all) => `(tactic| with_reducible assumption)
local macro_rules | `(tactic| tb_start) => `(tactic| first | exact Split.nil | (refine' Split.skip ?a ?b; (case a => k_mem); (case b => tb_start)) | (refine' Split.keep ?a ?b; (case a => tb_rel); (case b => tb_start)) | exact Split.off (List.forall_mem_cons.mpr ⟨by with_reducible assumption, List.forall_mem_cons.mpr ⟨by with_reducible assumption, List.forall_mem_nil _⟩⟩))
set_option maxHeartbeats 80000000 in
def lawV1 := fun (z0 : Hid _) (z1 : Hid _) (z2 : Hid _) => (by
  unfold Dom1
  intros
  (with_reducible rename DgIs _ _ _ _ _ _ => hd)
  (with_reducible rename Fin _ _ _ _ _ _ _ _ _ _ => hfin)
  (with_reducible rename (_ % 2 = _) => hpar)
  (with_reducible rename (_ ++ _ = _ ++ _) => hG)
  (with_reducible rename Fr _ _ _ _ => F1)
  (with_reducible rename News _ _ _ _ => N1)
  (with_reducible rename YS _ _ _ _ _ _ _ _ _ _ _ => hY1)
  (with_reducible rename OwnIs _ _ _ _ _ _ => hO1)
  obtain ⟨d, hdd, hd42, hdue, hb⟩ := due_is hd (by omega) rfl
  obtain ⟨Ea, ka, hEa, hsa⟩ := hY1.end1
  obtain ⟨E9, v9, hD9, hEY9, hvt, hvf⟩ := own_reset1 hpar hO1 hd hb
  have y1 := hY1.apart (List.mem_cons_of_mem _ (List.mem_cons_self ..))
  have y2 := hY1.apart (List.mem_cons_of_mem _ (List.mem_cons_of_mem _ (List.mem_cons_self ..)))
  have y3 := hY1.apart (List.mem_cons_of_mem _ (List.mem_cons_of_mem _ (List.mem_cons_of_mem _ (List.mem_cons_self ..))))
  obtain ⟨gh, gh'⟩ := hY1.hears hG
  cases v9
  case true =>
    obtain ⟨h1i, hai⟩ := hvt rfl
    clear hvt hvf
    repeat' (first | (k_unfold; (try dsimp only)) | (k_end; wrow_close) | (with_reducible first | (k_here; (with_reducible show wpAny _ _ (compareOp _ (Value.int _ _) (Value.int _ _)) _ _ _); first | (refine lti_yes (lt_if (by assumption) (by assumption)) ?_) | (refine lti_no (nlt_if (by assumption) (by assumption)) ?_)) | ((with_reducible show wpAny _ _ (call (Value.ref _) _) _ _ _); (first | ((with_reducible show wpAny _ _ (call (Value.ref 180) _) _ _ _); k_dflt (k_here; (refine' Does.read (heard3_does ?ho ?hq ?h1 ?h2 ?ht ?hf ?hU ?hZ) ?kr ?k1 ?k2 ?k3 ?k4 ?k5 ?kK ?kd ?ku ?ks ?_; (case ho => assumption); (case hq => assumption); (case kr => (intro _ _ hR; exact hR.2)); (case k1 => k_asm); (case k2 => k_asm); (case k3 => k_asm); (case k4 => k_asm); (case k5 => k_asm); (case kK => exact rfl); (case kd => first | decide | ktr_room); (case ku => ktr_units); (case ks => ((repeat (refine sub_cons ?_)); assumption)); (case h1 => exact ge_if (by assumption) (by assumption)); (case h2 => exact le_if (by assumption) (by assumption)); (case ht => exact tok_size _ _ _); (case hf => (rw [byteArr_size, List.length_map, rangeKs_length]; decide)); (case hU => first | exact tok_ne (by omega) (by omega) (by omega) (by omega) | exact Ne.symm (tok_ne (by omega) (by omega) (by omega) (by omega))); (case hZ => exact tok_zeros)); (intro r9 post9 h9 tk9 hR9 F9 N9); (have hR8 := hR9.1); (clear hR9); (subst hR8); (try dsimp only); (try k_fold))) | ((with_reducible show wpAny _ _ (call (Value.ref 175) _) _ _ _); k_dflt ((k_here; k_dflt (refine' Does.read (right3_does ?h1 ?h2 ?ht ?hf) ?kr ?k1 ?k2 ?k3 ?k4 ?k5 ?kK ?kd ?ku ?ks ?_; (case kr => first | (intro _ _ hR; exact hR.2) | (intro _ _ _ q hq; cases hq)); (case k1 => k_asm); (case k2 => k_asm); (case k3 => k_asm); (case k4 => k_asm); (case k5 => k_asm); (case kK => first | exact rfl | assumption); (case kd => first | decide | ktr_room); (case ku => ktr_units); (case ks => first | (dsimp only [sh]; (refine' List.forall_mem_cons.mpr ⟨?ma, List.forall_mem_cons.mpr ⟨?mb, List.forall_mem_cons.mpr ⟨?mc, List.forall_mem_cons.mpr ⟨?md, List.forall_mem_cons.mpr ⟨?me, List.forall_mem_nil _⟩⟩⟩⟩⟩); (case ma => k_mem); (case mb => k_mem); (case mc => k_mem); (case md => k_mem); (case me => k_mem)) | (intro q hq; cases hq)))); (case h1 => exact ge_if (by assumption) (by assumption)); (case h2 => exact le_if (by assumption) (by assumption)); (case ht => exact tok_size _ _ _); (case hf => (rw [byteArr_size, List.length_map, rangeKs_length]; decide)); (intro r9 post9 h9 tk9 hR9 F9 N9); (subst hR9); (try dsimp only); (try k_fold))) | ((with_reducible show wpAny _ _ (call (Value.ref 28) _) _ _ _); k_dflt ((k_here; k_dflt (refine' Does.read (resetSome_does ?hb ?hf ?hd ?h1 ?h2) ?kr ?k1 ?k2 ?k3 ?k4 ?k5 ?kK ?kd ?ku ?ks ?_; (case kr => first | (intro _ _ hR; exact hR.2) | (intro _ _ _ q hq; cases hq)); (case k1 => k_asm); (case k2 => k_asm); (case k3 => k_asm); (case k4 => k_asm); (case k5 => k_asm); (case kK => first | exact rfl | assumption); (case kd => first | decide | ktr_room); (case ku => ktr_units); (case ks => first | (dsimp only [sh]; (refine' List.forall_mem_cons.mpr ⟨?ma, List.forall_mem_cons.mpr ⟨?mb, List.forall_mem_cons.mpr ⟨?mc, List.forall_mem_cons.mpr ⟨?md, List.forall_mem_cons.mpr ⟨?me, List.forall_mem_nil _⟩⟩⟩⟩⟩); (case ma => k_mem); (case mb => k_mem); (case mc => k_mem); (case md => k_mem); (case me => k_mem)) | (intro q hq; cases hq)))); (case hb => exact tok_size _ _ _); (case hf => (rw [byteArr_size, List.length_map, rangeKs_length]; decide)); (case hd => exact rfl); (case h1 => exact ge_if (by assumption) (by assumption)); (case h2 => (rw [byteArr_size, List.length_map, rangeKs_length]; exact le16 (by assumption) (by assumption))); (intro r9 post9 h9 tk9 hR9 F9 N9); (obtain ⟨t9, hR9⟩ := hR9); (subst hR9); (try dsimp only); (try k_fold))) | ((with_reducible show wpAny _ _ (call (Value.ref 28) _) _ _ _); k_dflt ((k_here; k_dflt (refine' Does.read (resetNone_does ?hb ?hf ?h) ?kr ?k1 ?k2 ?k3 ?k4 ?k5 ?kK ?kd ?ku ?ks ?_; (case kr => first | (intro _ _ hR; exact hR.2) | (intro _ _ _ q hq; cases hq)); (case k1 => k_asm); (case k2 => k_asm); (case k3 => k_asm); (case k4 => k_asm); (case k5 => k_asm); (case kK => first | exact rfl | assumption); (case kd => first | decide | ktr_room); (case ku => ktr_units); (case ks => first | (dsimp only [sh]; (refine' List.forall_mem_cons.mpr ⟨?ma, List.forall_mem_cons.mpr ⟨?mb, List.forall_mem_cons.mpr ⟨?mc, List.forall_mem_cons.mpr ⟨?md, List.forall_mem_cons.mpr ⟨?me, List.forall_mem_nil _⟩⟩⟩⟩⟩); (case ma => k_mem); (case mb => k_mem); (case mc => k_mem); (case md => k_mem); (case me => k_mem)) | (intro q hq; cases hq)))); (case hb => (rw [tok_size]; decide)); (case hf => (rw [byteArr_size, List.length_map, rangeKs_length]; decide)); (case h => exact .inl (lt_if (by assumption) (by assumption))); (intro r9 post9 h9 tk9 hR9 F9 N9); (subst hR9); (try dsimp only); (try k_fold))) | ((with_reducible show wpAny _ _ (call (Value.ref 156) _) _ _ _); k_dflt ((k_here; k_dflt (refine' Does.split (take_does ?hi ?hne ?hl ?h0 ?h1 ?hm ?hm2) ?k1 ?k2 ?k3 ?k4 ?k5 ?kK ?kd ?ku (List.forall_mem_cons.mpr ⟨?maG, List.forall_mem_cons.mpr ⟨?mbG, List.forall_mem_nil _⟩⟩) ?ksp ?_; (case k1 => k_asm); (case k2 => k_asm); (case k3 => k_asm); (case k4 => k_asm); (case k5 => k_asm); (case kK => first | exact rfl | assumption); (case kd => first | decide | ktr_room); (case ku => ktr_units))); (case maG => k_mem); (case mbG => k_mem); (case hi => assumption); (case hne => omega); (case hl => first | assumption | (rw [List.length_take]; omega)); (case h0 => omega); (case h1 => omega); (case hm => decide); (case hm2 => decide); (case ksp => (simp only [List.map_cons, List.map_nil]; tb_start)); (intro r9 post9 h9 tk9 hR9 F9 N9); (obtain ⟨v9, t9, t8, n9, lo9, hi9, hr9, hp9⟩ := hR9); (subst hr9); (subst hp9); (simp only [List.cons_append, List.nil_append] at N9); (try dsimp only); (try k_fold))) | ((with_reducible show wpAny _ _ (call (Value.ref 142) _) _ _ _); k_dflt (k_here; (refine' Does.read ?hD ?kr ?k1 ?k2 ?k3 ?k4 ?k5 ?kK ?kd ?ku ?ks ?_; (case hD => (with_reducible rename (∀ _ : Tok, Does _ _ _ _ _ _) => hDq; exact hDq _)); (case kr => (intro _ _ hR; exact hR.2)); (case k1 => k_asm); (case k2 => k_asm); (case k3 => k_asm); (case k4 => k_asm); (case k5 => k_asm); (case kK => exact rfl); (case kd => first | decide | ktr_room); (case ku => ktr_units); (case ks => ((repeat (refine sub_cons ?_)); assumption))); (intro r9 post9 h9 tk9 hR9 F9 N9); (have hR8 := hR9.1); (clear hR9); (subst hR8); (try dsimp only); (try k_fold))))) | (k_here; (with_reducible show wpAny _ _ (call (Value.type "bytes") [Value.ref _]) _ _ _); k_dflt (refine' KBa.make_K ?kbaF ?kbaN ?kbah ?kbal ?kbai ?kbar ?kban ?_; (case kbaF => k_asm); (case kbaN => k_asm); (case kbah => rfl); (case kbal => is_list); (case kbai => with_reducible assumption); (case kbar => (intro n9 hn9; obtain ⟨k9, _, e9⟩ := List.mem_map.mp hn9; subst e9; exact ⟨Int.fmod_nonneg_of_pos _ (by decide), Int.fmod_lt_of_pos _ (by decide)⟩)); (case kban => (simp only [List.length_map, rangeKs_length]; decide))); intro h' t' k' F' N' hb') | ((with_reducible show wpAny _ _ (getMethod (Value.ref _) _ _) _ _ _); (k_here; k_dflt (refine' method_end ?hE ?hsub ?k1 ?k2 ?kN ?k4 ?k5 ?k6 ?k7 ?_; (case hE => assumption); (case kN => k_asm); (case hsub => ((repeat (refine sub_cons ?_)); assumption)); (case k1 => k_asm); (case k2 => k_asm); (case k4 => k_is); (case k5 => k_is); (case k6 => k_is); (case k7 => (intro e9; k_get)); k_whole))) | ((with_reducible show wpAny _ _ (exec (Stmt.If _ _ _ _) _) _ _ _); (k_here; with_reducible refine wpAny_If ?_)) | ((with_reducible show wpAny _ _ (execs [] _) _ _ _); (k_here; (with_reducible refine gen_toks ?_); intro _; (with_reducible refine wpAny_execs_nil ?_))) | ((with_reducible show wpAny _ _ (execs (_ :: _) _) _ _ _); (k_here; (with_reducible refine gen_toks ?_); intro _; (with_reducible refine wpAny_execs_cons ?_); (try k_fold)))) | walk1 | (dsimp only) | (leave1; walk_say "STEP leave1"; try dsimp only) | fail "no step")
    all_goals ((repeat (rename _ => z9; revert z9)); exact fun x _ _ => x.out)
  case false =>
    have hvn := hvf rfl
    clear hvt hvf
    rcases Int.lt_or_le d 21 with hd21 | hd21
    · repeat' (first | (k_unfold; (try dsimp only)) | (k_end; wrow_close) | (with_reducible first | (k_here; (with_reducible show wpAny _ _ (compareOp _ (Value.int _ _) (Value.int _ _)) _ _ _); first | (refine lti_yes (lt_if (by assumption) (by assumption)) ?_) | (refine lti_no (nlt_if (by assumption) (by assumption)) ?_)) | ((with_reducible show wpAny _ _ (call (Value.ref _) _) _ _ _); (first | ((with_reducible show wpAny _ _ (call (Value.ref 180) _) _ _ _); k_dflt (k_here; (refine' Does.read (heard3_does ?ho ?hq ?h1 ?h2 ?ht ?hf ?hU ?hZ) ?kr ?k1 ?k2 ?k3 ?k4 ?k5 ?kK ?kd ?ku ?ks ?_; (case ho => assumption); (case hq => assumption); (case kr => (intro _ _ hR; exact hR.2)); (case k1 => k_asm); (case k2 => k_asm); (case k3 => k_asm); (case k4 => k_asm); (case k5 => k_asm); (case kK => exact rfl); (case kd => first | decide | ktr_room); (case ku => ktr_units); (case ks => ((repeat (refine sub_cons ?_)); assumption)); (case h1 => exact ge_if (by assumption) (by assumption)); (case h2 => exact le_if (by assumption) (by assumption)); (case ht => exact tok_size _ _ _); (case hf => (rw [byteArr_size, List.length_map, rangeKs_length]; decide)); (case hU => first | exact tok_ne (by omega) (by omega) (by omega) (by omega) | exact Ne.symm (tok_ne (by omega) (by omega) (by omega) (by omega))); (case hZ => exact tok_zeros)); (intro r9 post9 h9 tk9 hR9 F9 N9); (have hR8 := hR9.1); (clear hR9); (subst hR8); (try dsimp only); (try k_fold))) | ((with_reducible show wpAny _ _ (call (Value.ref 175) _) _ _ _); k_dflt ((k_here; k_dflt (refine' Does.read (right3_does ?h1 ?h2 ?ht ?hf) ?kr ?k1 ?k2 ?k3 ?k4 ?k5 ?kK ?kd ?ku ?ks ?_; (case kr => first | (intro _ _ hR; exact hR.2) | (intro _ _ _ q hq; cases hq)); (case k1 => k_asm); (case k2 => k_asm); (case k3 => k_asm); (case k4 => k_asm); (case k5 => k_asm); (case kK => first | exact rfl | assumption); (case kd => first | decide | ktr_room); (case ku => ktr_units); (case ks => first | (dsimp only [sh]; (refine' List.forall_mem_cons.mpr ⟨?ma, List.forall_mem_cons.mpr ⟨?mb, List.forall_mem_cons.mpr ⟨?mc, List.forall_mem_cons.mpr ⟨?md, List.forall_mem_cons.mpr ⟨?me, List.forall_mem_nil _⟩⟩⟩⟩⟩); (case ma => k_mem); (case mb => k_mem); (case mc => k_mem); (case md => k_mem); (case me => k_mem)) | (intro q hq; cases hq)))); (case h1 => exact ge_if (by assumption) (by assumption)); (case h2 => exact le_if (by assumption) (by assumption)); (case ht => exact tok_size _ _ _); (case hf => (rw [byteArr_size, List.length_map, rangeKs_length]; decide)); (intro r9 post9 h9 tk9 hR9 F9 N9); (subst hR9); (try dsimp only); (try k_fold))) | ((with_reducible show wpAny _ _ (call (Value.ref 28) _) _ _ _); k_dflt ((k_here; k_dflt (refine' Does.read (resetSome_does ?hb ?hf ?hd ?h1 ?h2) ?kr ?k1 ?k2 ?k3 ?k4 ?k5 ?kK ?kd ?ku ?ks ?_; (case kr => first | (intro _ _ hR; exact hR.2) | (intro _ _ _ q hq; cases hq)); (case k1 => k_asm); (case k2 => k_asm); (case k3 => k_asm); (case k4 => k_asm); (case k5 => k_asm); (case kK => first | exact rfl | assumption); (case kd => first | decide | ktr_room); (case ku => ktr_units); (case ks => first | (dsimp only [sh]; (refine' List.forall_mem_cons.mpr ⟨?ma, List.forall_mem_cons.mpr ⟨?mb, List.forall_mem_cons.mpr ⟨?mc, List.forall_mem_cons.mpr ⟨?md, List.forall_mem_cons.mpr ⟨?me, List.forall_mem_nil _⟩⟩⟩⟩⟩); (case ma => k_mem); (case mb => k_mem); (case mc => k_mem); (case md => k_mem); (case me => k_mem)) | (intro q hq; cases hq)))); (case hb => exact tok_size _ _ _); (case hf => (rw [byteArr_size, List.length_map, rangeKs_length]; decide)); (case hd => exact rfl); (case h1 => exact ge_if (by assumption) (by assumption)); (case h2 => (rw [byteArr_size, List.length_map, rangeKs_length]; exact le16 (by assumption) (by assumption))); (intro r9 post9 h9 tk9 hR9 F9 N9); (obtain ⟨t9, hR9⟩ := hR9); (subst hR9); (try dsimp only); (try k_fold))) | ((with_reducible show wpAny _ _ (call (Value.ref 28) _) _ _ _); k_dflt ((k_here; k_dflt (refine' Does.read (resetNone_does ?hb ?hf ?h) ?kr ?k1 ?k2 ?k3 ?k4 ?k5 ?kK ?kd ?ku ?ks ?_; (case kr => first | (intro _ _ hR; exact hR.2) | (intro _ _ _ q hq; cases hq)); (case k1 => k_asm); (case k2 => k_asm); (case k3 => k_asm); (case k4 => k_asm); (case k5 => k_asm); (case kK => first | exact rfl | assumption); (case kd => first | decide | ktr_room); (case ku => ktr_units); (case ks => first | (dsimp only [sh]; (refine' List.forall_mem_cons.mpr ⟨?ma, List.forall_mem_cons.mpr ⟨?mb, List.forall_mem_cons.mpr ⟨?mc, List.forall_mem_cons.mpr ⟨?md, List.forall_mem_cons.mpr ⟨?me, List.forall_mem_nil _⟩⟩⟩⟩⟩); (case ma => k_mem); (case mb => k_mem); (case mc => k_mem); (case md => k_mem); (case me => k_mem)) | (intro q hq; cases hq)))); (case hb => (rw [tok_size]; decide)); (case hf => (rw [byteArr_size, List.length_map, rangeKs_length]; decide)); (case h => exact .inl (lt_if (by assumption) (by assumption))); (intro r9 post9 h9 tk9 hR9 F9 N9); (subst hR9); (try dsimp only); (try k_fold))) | ((with_reducible show wpAny _ _ (call (Value.ref 156) _) _ _ _); k_dflt ((k_here; k_dflt (refine' Does.split (take_does ?hi ?hne ?hl ?h0 ?h1 ?hm ?hm2) ?k1 ?k2 ?k3 ?k4 ?k5 ?kK ?kd ?ku (List.forall_mem_cons.mpr ⟨?maG, List.forall_mem_cons.mpr ⟨?mbG, List.forall_mem_nil _⟩⟩) ?ksp ?_; (case k1 => k_asm); (case k2 => k_asm); (case k3 => k_asm); (case k4 => k_asm); (case k5 => k_asm); (case kK => first | exact rfl | assumption); (case kd => first | decide | ktr_room); (case ku => ktr_units))); (case maG => k_mem); (case mbG => k_mem); (case hi => assumption); (case hne => omega); (case hl => first | assumption | (rw [List.length_take]; omega)); (case h0 => omega); (case h1 => omega); (case hm => decide); (case hm2 => decide); (case ksp => (simp only [List.map_cons, List.map_nil]; tb_start)); (intro r9 post9 h9 tk9 hR9 F9 N9); (obtain ⟨v9, t9, t8, n9, lo9, hi9, hr9, hp9⟩ := hR9); (subst hr9); (subst hp9); (simp only [List.cons_append, List.nil_append] at N9); (try dsimp only); (try k_fold))) | ((with_reducible show wpAny _ _ (call (Value.ref 142) _) _ _ _); k_dflt (k_here; (refine' Does.read ?hD ?kr ?k1 ?k2 ?k3 ?k4 ?k5 ?kK ?kd ?ku ?ks ?_; (case hD => (with_reducible rename (∀ _ : Tok, Does _ _ _ _ _ _) => hDq; exact hDq _)); (case kr => (intro _ _ hR; exact hR.2)); (case k1 => k_asm); (case k2 => k_asm); (case k3 => k_asm); (case k4 => k_asm); (case k5 => k_asm); (case kK => exact rfl); (case kd => first | decide | ktr_room); (case ku => ktr_units); (case ks => ((repeat (refine sub_cons ?_)); assumption))); (intro r9 post9 h9 tk9 hR9 F9 N9); (have hR8 := hR9.1); (clear hR9); (subst hR8); (try dsimp only); (try k_fold))))) | (k_here; (with_reducible show wpAny _ _ (call (Value.type "bytes") [Value.ref _]) _ _ _); k_dflt (refine' KBa.make_K ?kbaF ?kbaN ?kbah ?kbal ?kbai ?kbar ?kban ?_; (case kbaF => k_asm); (case kbaN => k_asm); (case kbah => rfl); (case kbal => is_list); (case kbai => with_reducible assumption); (case kbar => (intro n9 hn9; obtain ⟨k9, _, e9⟩ := List.mem_map.mp hn9; subst e9; exact ⟨Int.fmod_nonneg_of_pos _ (by decide), Int.fmod_lt_of_pos _ (by decide)⟩)); (case kban => (simp only [List.length_map, rangeKs_length]; decide))); intro h' t' k' F' N' hb') | ((with_reducible show wpAny _ _ (getMethod (Value.ref _) _ _) _ _ _); (k_here; k_dflt (refine' method_end ?hE ?hsub ?k1 ?k2 ?kN ?k4 ?k5 ?k6 ?k7 ?_; (case hE => assumption); (case kN => k_asm); (case hsub => ((repeat (refine sub_cons ?_)); assumption)); (case k1 => k_asm); (case k2 => k_asm); (case k4 => k_is); (case k5 => k_is); (case k6 => k_is); (case k7 => (intro e9; k_get)); k_whole))) | ((with_reducible show wpAny _ _ (exec (Stmt.If _ _ _ _) _) _ _ _); (k_here; with_reducible refine wpAny_If ?_)) | ((with_reducible show wpAny _ _ (execs [] _) _ _ _); (k_here; (with_reducible refine gen_toks ?_); intro _; (with_reducible refine wpAny_execs_nil ?_))) | ((with_reducible show wpAny _ _ (execs (_ :: _) _) _ _ _); (k_here; (with_reducible refine gen_toks ?_); intro _; (with_reducible refine wpAny_execs_cons ?_); (try k_fold)))) | walk1 | (dsimp only) | (leave1; walk_say "STEP leave1"; try dsimp only) | fail "no step")
      all_goals ((repeat (rename _ => z9; revert z9)); exact fun _ x _ => x.out)
    · repeat' (first | (k_unfold; (try dsimp only)) | (k_end; wrow_close) | (with_reducible first | (k_here; (with_reducible show wpAny _ _ (compareOp _ (Value.int _ _) (Value.int _ _)) _ _ _); first | (refine lti_yes (lt_if (by assumption) (by assumption)) ?_) | (refine lti_no (nlt_if (by assumption) (by assumption)) ?_)) | ((with_reducible show wpAny _ _ (call (Value.ref _) _) _ _ _); (first | ((with_reducible show wpAny _ _ (call (Value.ref 180) _) _ _ _); k_dflt (k_here; (refine' Does.read (heard3_does ?ho ?hq ?h1 ?h2 ?ht ?hf ?hU ?hZ) ?kr ?k1 ?k2 ?k3 ?k4 ?k5 ?kK ?kd ?ku ?ks ?_; (case ho => assumption); (case hq => assumption); (case kr => (intro _ _ hR; exact hR.2)); (case k1 => k_asm); (case k2 => k_asm); (case k3 => k_asm); (case k4 => k_asm); (case k5 => k_asm); (case kK => exact rfl); (case kd => first | decide | ktr_room); (case ku => ktr_units); (case ks => ((repeat (refine sub_cons ?_)); assumption)); (case h1 => exact ge_if (by assumption) (by assumption)); (case h2 => exact le_if (by assumption) (by assumption)); (case ht => exact tok_size _ _ _); (case hf => (rw [byteArr_size, List.length_map, rangeKs_length]; decide)); (case hU => first | exact tok_ne (by omega) (by omega) (by omega) (by omega) | exact Ne.symm (tok_ne (by omega) (by omega) (by omega) (by omega))); (case hZ => exact tok_zeros)); (intro r9 post9 h9 tk9 hR9 F9 N9); (have hR8 := hR9.1); (clear hR9); (subst hR8); (try dsimp only); (try k_fold))) | ((with_reducible show wpAny _ _ (call (Value.ref 175) _) _ _ _); k_dflt ((k_here; k_dflt (refine' Does.read (right3_does ?h1 ?h2 ?ht ?hf) ?kr ?k1 ?k2 ?k3 ?k4 ?k5 ?kK ?kd ?ku ?ks ?_; (case kr => first | (intro _ _ hR; exact hR.2) | (intro _ _ _ q hq; cases hq)); (case k1 => k_asm); (case k2 => k_asm); (case k3 => k_asm); (case k4 => k_asm); (case k5 => k_asm); (case kK => first | exact rfl | assumption); (case kd => first | decide | ktr_room); (case ku => ktr_units); (case ks => first | (dsimp only [sh]; (refine' List.forall_mem_cons.mpr ⟨?ma, List.forall_mem_cons.mpr ⟨?mb, List.forall_mem_cons.mpr ⟨?mc, List.forall_mem_cons.mpr ⟨?md, List.forall_mem_cons.mpr ⟨?me, List.forall_mem_nil _⟩⟩⟩⟩⟩); (case ma => k_mem); (case mb => k_mem); (case mc => k_mem); (case md => k_mem); (case me => k_mem)) | (intro q hq; cases hq)))); (case h1 => exact ge_if (by assumption) (by assumption)); (case h2 => exact le_if (by assumption) (by assumption)); (case ht => exact tok_size _ _ _); (case hf => (rw [byteArr_size, List.length_map, rangeKs_length]; decide)); (intro r9 post9 h9 tk9 hR9 F9 N9); (subst hR9); (try dsimp only); (try k_fold))) | ((with_reducible show wpAny _ _ (call (Value.ref 28) _) _ _ _); k_dflt ((k_here; k_dflt (refine' Does.read (resetSome_does ?hb ?hf ?hd ?h1 ?h2) ?kr ?k1 ?k2 ?k3 ?k4 ?k5 ?kK ?kd ?ku ?ks ?_; (case kr => first | (intro _ _ hR; exact hR.2) | (intro _ _ _ q hq; cases hq)); (case k1 => k_asm); (case k2 => k_asm); (case k3 => k_asm); (case k4 => k_asm); (case k5 => k_asm); (case kK => first | exact rfl | assumption); (case kd => first | decide | ktr_room); (case ku => ktr_units); (case ks => first | (dsimp only [sh]; (refine' List.forall_mem_cons.mpr ⟨?ma, List.forall_mem_cons.mpr ⟨?mb, List.forall_mem_cons.mpr ⟨?mc, List.forall_mem_cons.mpr ⟨?md, List.forall_mem_cons.mpr ⟨?me, List.forall_mem_nil _⟩⟩⟩⟩⟩); (case ma => k_mem); (case mb => k_mem); (case mc => k_mem); (case md => k_mem); (case me => k_mem)) | (intro q hq; cases hq)))); (case hb => exact tok_size _ _ _); (case hf => (rw [byteArr_size, List.length_map, rangeKs_length]; decide)); (case hd => exact rfl); (case h1 => exact ge_if (by assumption) (by assumption)); (case h2 => (rw [byteArr_size, List.length_map, rangeKs_length]; exact le16 (by assumption) (by assumption))); (intro r9 post9 h9 tk9 hR9 F9 N9); (obtain ⟨t9, hR9⟩ := hR9); (subst hR9); (try dsimp only); (try k_fold))) | ((with_reducible show wpAny _ _ (call (Value.ref 28) _) _ _ _); k_dflt ((k_here; k_dflt (refine' Does.read (resetNone_does ?hb ?hf ?h) ?kr ?k1 ?k2 ?k3 ?k4 ?k5 ?kK ?kd ?ku ?ks ?_; (case kr => first | (intro _ _ hR; exact hR.2) | (intro _ _ _ q hq; cases hq)); (case k1 => k_asm); (case k2 => k_asm); (case k3 => k_asm); (case k4 => k_asm); (case k5 => k_asm); (case kK => first | exact rfl | assumption); (case kd => first | decide | ktr_room); (case ku => ktr_units); (case ks => first | (dsimp only [sh]; (refine' List.forall_mem_cons.mpr ⟨?ma, List.forall_mem_cons.mpr ⟨?mb, List.forall_mem_cons.mpr ⟨?mc, List.forall_mem_cons.mpr ⟨?md, List.forall_mem_cons.mpr ⟨?me, List.forall_mem_nil _⟩⟩⟩⟩⟩); (case ma => k_mem); (case mb => k_mem); (case mc => k_mem); (case md => k_mem); (case me => k_mem)) | (intro q hq; cases hq)))); (case hb => (rw [tok_size]; decide)); (case hf => (rw [byteArr_size, List.length_map, rangeKs_length]; decide)); (case h => exact .inl (lt_if (by assumption) (by assumption))); (intro r9 post9 h9 tk9 hR9 F9 N9); (subst hR9); (try dsimp only); (try k_fold))) | ((with_reducible show wpAny _ _ (call (Value.ref 156) _) _ _ _); k_dflt ((k_here; k_dflt (refine' Does.split (take_does ?hi ?hne ?hl ?h0 ?h1 ?hm ?hm2) ?k1 ?k2 ?k3 ?k4 ?k5 ?kK ?kd ?ku (List.forall_mem_cons.mpr ⟨?maG, List.forall_mem_cons.mpr ⟨?mbG, List.forall_mem_nil _⟩⟩) ?ksp ?_; (case k1 => k_asm); (case k2 => k_asm); (case k3 => k_asm); (case k4 => k_asm); (case k5 => k_asm); (case kK => first | exact rfl | assumption); (case kd => first | decide | ktr_room); (case ku => ktr_units))); (case maG => k_mem); (case mbG => k_mem); (case hi => assumption); (case hne => omega); (case hl => first | assumption | (rw [List.length_take]; omega)); (case h0 => omega); (case h1 => omega); (case hm => decide); (case hm2 => decide); (case ksp => (simp only [List.map_cons, List.map_nil]; tb_start)); (intro r9 post9 h9 tk9 hR9 F9 N9); (obtain ⟨v9, t9, t8, n9, lo9, hi9, hr9, hp9⟩ := hR9); (subst hr9); (subst hp9); (simp only [List.cons_append, List.nil_append] at N9); (try dsimp only); (try k_fold))) | ((with_reducible show wpAny _ _ (call (Value.ref 142) _) _ _ _); k_dflt (k_here; (refine' Does.read ?hD ?kr ?k1 ?k2 ?k3 ?k4 ?k5 ?kK ?kd ?ku ?ks ?_; (case hD => (with_reducible rename (∀ _ : Tok, Does _ _ _ _ _ _) => hDq; exact hDq _)); (case kr => (intro _ _ hR; exact hR.2)); (case k1 => k_asm); (case k2 => k_asm); (case k3 => k_asm); (case k4 => k_asm); (case k5 => k_asm); (case kK => exact rfl); (case kd => first | decide | ktr_room); (case ku => ktr_units); (case ks => ((repeat (refine sub_cons ?_)); assumption))); (intro r9 post9 h9 tk9 hR9 F9 N9); (have hR8 := hR9.1); (clear hR9); (subst hR8); (try dsimp only); (try k_fold))))) | (k_here; (with_reducible show wpAny _ _ (call (Value.type "bytes") [Value.ref _]) _ _ _); k_dflt (refine' KBa.make_K ?kbaF ?kbaN ?kbah ?kbal ?kbai ?kbar ?kban ?_; (case kbaF => k_asm); (case kbaN => k_asm); (case kbah => rfl); (case kbal => is_list); (case kbai => with_reducible assumption); (case kbar => (intro n9 hn9; obtain ⟨k9, _, e9⟩ := List.mem_map.mp hn9; subst e9; exact ⟨Int.fmod_nonneg_of_pos _ (by decide), Int.fmod_lt_of_pos _ (by decide)⟩)); (case kban => (simp only [List.length_map, rangeKs_length]; decide))); intro h' t' k' F' N' hb') | ((with_reducible show wpAny _ _ (getMethod (Value.ref _) _ _) _ _ _); (k_here; k_dflt (refine' method_end ?hE ?hsub ?k1 ?k2 ?kN ?k4 ?k5 ?k6 ?k7 ?_; (case hE => assumption); (case kN => k_asm); (case hsub => ((repeat (refine sub_cons ?_)); assumption)); (case k1 => k_asm); (case k2 => k_asm); (case k4 => k_is); (case k5 => k_is); (case k6 => k_is); (case k7 => (intro e9; k_get)); k_whole))) | ((with_reducible show wpAny _ _ (exec (Stmt.If _ _ _ _) _) _ _ _); (k_here; with_reducible refine wpAny_If ?_)) | ((with_reducible show wpAny _ _ (execs [] _) _ _ _); (k_here; (with_reducible refine gen_toks ?_); intro _; (with_reducible refine wpAny_execs_nil ?_))) | ((with_reducible show wpAny _ _ (execs (_ :: _) _) _ _ _); (k_here; (with_reducible refine gen_toks ?_); intro _; (with_reducible refine wpAny_execs_cons ?_); (try k_fold)))) | walk1 | (dsimp only) | (leave1; walk_say "STEP leave1"; try dsimp only) | fail "no step")
      all_goals ((repeat (rename _ => z9; revert z9)); exact fun _ _ x => x.out) : Dom1 Mine.lawU1)
end
section
theorem eW0 : Dom1 Mine.lawV0 := by
  unfold Dom1
  intros
  (with_reducible rename DgIs _ _ _ _ _ _ => hd)
  (with_reducible rename Fin _ _ _ _ _ _ _ _ _ _ => hfin)
  (with_reducible rename (_ % 2 = _) => hpar)
  (with_reducible rename YS _ _ _ _ _ _ _ _ _ _ _ => hY1)
  (rename (∀ j : Int, 1 ≤ j → _) => hjs)
  (with_reducible rename (_ = 0 ∨ _ ≤ _) => hi20)
  (with_reducible rename ((ite _ _ _) = _) => hdue)
  (with_reducible rename (_ = (ite _ _ _) - _) => hdd)
  (with_reducible rename (@Eq Int _ (Nat.cast _)) => hkm)
  (with_reducible rename (1 ≤ _) => h1i)
  (with_reducible rename (_ ≤ (Nat.cast _ : Int)) => hai)
  with_reducible rename Fr _ _ _ _ => F9
  with_reducible rename News _ _ _ _ => N9
  refine brk_end hfin (fr_cast lawM_brk1 F9) N9 (by k_mem) (most_stop hkm h1i (stop0 hpar hai) hi20 hjs)
theorem eX0 : Dom2 Mine.lawV0 := by
  unfold Dom2
  intros
  (with_reducible rename DgIs _ _ _ _ _ _ => hd)
  (with_reducible rename Fin _ _ _ _ _ _ _ _ _ _ => hfin)
  (with_reducible rename (_ % 2 = _) => hpar)
  (with_reducible rename YS _ _ _ _ _ _ _ _ _ _ _ => hY1)
  (rename (∀ j : Int, 1 ≤ j → _) => hjs)
  (with_reducible rename (_ = 0 ∨ _ ≤ _) => hi20)
  (with_reducible rename ((ite _ _ _) = _) => hdue)
  (with_reducible rename (_ = (ite _ _ _) - _) => hdd)
  (with_reducible rename (@Eq Int _ (Nat.cast _)) => hkm)
  (with_reducible rename (_ < 21) => hd21)
  with_reducible rename Fr _ _ _ _ => F9
  with_reducible rename News _ _ _ _ => N9
  refine brk_end hfin (fr_cast lawM_brk2 F9) N9 (by k_mem) (most_end hkm hi20 (end_lt hdd hd21) hjs)
theorem eY0 : Dom3 Mine.lawV0 := by
  unfold Dom3
  intros
  (with_reducible rename DgIs _ _ _ _ _ _ => hd)
  (with_reducible rename Fin _ _ _ _ _ _ _ _ _ _ => hfin)
  (with_reducible rename (_ % 2 = _) => hpar)
  (with_reducible rename YS _ _ _ _ _ _ _ _ _ _ _ => hY1)
  (rename (∀ j : Int, 1 ≤ j → _) => hjs)
  (with_reducible rename (_ = 0 ∨ _ ≤ _) => hi20)
  (with_reducible rename ((ite _ _ _) = _) => hdue)
  (with_reducible rename (_ = (ite _ _ _) - _) => hdd)
  (with_reducible rename (@Eq Int _ (Nat.cast _)) => hkm)
  (with_reducible rename (21 ≤ _) => hd21)
  (with_reducible rename (_ ≤ (42 : Int)) => hd42)
  (with_reducible rename (_ = 0 ∨ _ < _) => hvn)
  (rename (∀ c ∈ List.map _ _, c ≠ _) => hIa)
  with_reducible rename Fr _ _ _ _ => F9
  with_reducible rename News _ _ _ _ => N9
  refine next_end ?_
  refine' turn_end (fr_cast lawM_end F9) N9 (List.forall_mem_cons.mpr ⟨?mI, List.forall_mem_append.mpr ⟨List.forall_mem_cons.mpr ⟨?m1, List.forall_mem_cons.mpr ⟨?m2, List.forall_mem_cons.mpr ⟨?m3, List.forall_mem_cons.mpr ⟨?m4, List.forall_mem_cons.mpr ⟨?m5, List.forall_mem_cons.mpr ⟨?m6, List.forall_mem_cons.mpr ⟨?m7, List.forall_mem_nil _⟩⟩⟩⟩⟩⟩⟩, ?mY⟩⟩) ?hk ?hc ?hp hY1 hIa (dg_next0 hpar (hdue.trans hdd) (ge_if hdue hd21) (le_if hdue hd42) (tok_size _ _ _) ?hsz) hjs (go0 hpar hvn) (nxt_le hdd hd21)
  case mI => k_mem
  case m1 => k_mem
  case m2 => k_mem
  case hc => assumption
  case m3 => k_mem
  case m4 => k_mem
  case m5 => k_mem
  case m6 => k_mem
  case m7 => k_mem
  case mY => (repeat (refine sub_cons ?_)); exact fun _ h => h
  case hk => omega
  case hp => omega
  case hsz => rw [byteArr_size, List.length_map, rangeKs_length]; decide
end
section
theorem eW1 : Dom1 Mine.lawV1 := by
  unfold Dom1
  intros
  (with_reducible rename DgIs _ _ _ _ _ _ => hd)
  (with_reducible rename Fin _ _ _ _ _ _ _ _ _ _ => hfin)
  (with_reducible rename (_ % 2 = _) => hpar)
  (with_reducible rename YS _ _ _ _ _ _ _ _ _ _ _ => hY1)
  (rename (∀ j : Int, 1 ≤ j → _) => hjs)
  (with_reducible rename (_ = 0 ∨ _ ≤ _) => hi20)
  (with_reducible rename ((ite _ _ _) = _) => hdue)
  (with_reducible rename (_ = (ite _ _ _) - _) => hdd)
  (with_reducible rename (@Eq Int _ (Nat.cast _)) => hkm)
  (with_reducible rename (1 ≤ _) => h1i)
  (with_reducible rename (_ ≤ (Nat.cast _ : Int)) => hai)
  with_reducible rename Fr _ _ _ _ => F9
  with_reducible rename News _ _ _ _ => N9
  refine brk_end hfin (fr_cast lawM_brk1 F9) N9 (by k_mem) (most_stop hkm h1i (stop1 hpar hai) hi20 hjs)
theorem eX1 : Dom2 Mine.lawV1 := by
  unfold Dom2
  intros
  (with_reducible rename DgIs _ _ _ _ _ _ => hd)
  (with_reducible rename Fin _ _ _ _ _ _ _ _ _ _ => hfin)
  (with_reducible rename (_ % 2 = _) => hpar)
  (with_reducible rename YS _ _ _ _ _ _ _ _ _ _ _ => hY1)
  (rename (∀ j : Int, 1 ≤ j → _) => hjs)
  (with_reducible rename (_ = 0 ∨ _ ≤ _) => hi20)
  (with_reducible rename ((ite _ _ _) = _) => hdue)
  (with_reducible rename (_ = (ite _ _ _) - _) => hdd)
  (with_reducible rename (@Eq Int _ (Nat.cast _)) => hkm)
  (with_reducible rename (_ < 21) => hd21)
  with_reducible rename Fr _ _ _ _ => F9
  with_reducible rename News _ _ _ _ => N9
  refine brk_end hfin (fr_cast lawM_brk2 F9) N9 (by k_mem) (most_end hkm hi20 (end_lt hdd hd21) hjs)
theorem eY1 : Dom3 Mine.lawV1 := by
  unfold Dom3
  intros
  (with_reducible rename DgIs _ _ _ _ _ _ => hd)
  (with_reducible rename Fin _ _ _ _ _ _ _ _ _ _ => hfin)
  (with_reducible rename (_ % 2 = _) => hpar)
  (with_reducible rename YS _ _ _ _ _ _ _ _ _ _ _ => hY1)
  (rename (∀ j : Int, 1 ≤ j → _) => hjs)
  (with_reducible rename (_ = 0 ∨ _ ≤ _) => hi20)
  (with_reducible rename ((ite _ _ _) = _) => hdue)
  (with_reducible rename (_ = (ite _ _ _) - _) => hdd)
  (with_reducible rename (@Eq Int _ (Nat.cast _)) => hkm)
  (with_reducible rename (21 ≤ _) => hd21)
  (with_reducible rename (_ ≤ (42 : Int)) => hd42)
  (with_reducible rename (_ = 0 ∨ _ < _) => hvn)
  (rename (∀ c ∈ List.map _ _, c ≠ _) => hIa)
  with_reducible rename Fr _ _ _ _ => F9
  with_reducible rename News _ _ _ _ => N9
  refine next_end ?_
  refine' turn_end (fr_cast lawM_end F9) N9 (List.forall_mem_cons.mpr ⟨?mI, List.forall_mem_append.mpr ⟨List.forall_mem_cons.mpr ⟨?m1, List.forall_mem_cons.mpr ⟨?m2, List.forall_mem_cons.mpr ⟨?m3, List.forall_mem_cons.mpr ⟨?m4, List.forall_mem_cons.mpr ⟨?m5, List.forall_mem_cons.mpr ⟨?m6, List.forall_mem_cons.mpr ⟨?m7, List.forall_mem_nil _⟩⟩⟩⟩⟩⟩⟩, ?mY⟩⟩) ?hk ?hc ?hp hY1 hIa (dg_next1 hpar (hdue.trans hdd) (ge_if hdue hd21) (le_if hdue hd42) (tok_size _ _ _) ?hsz) hjs (go1 hpar hvn) (nxt_le hdd hd21)
  case mI => k_mem
  case m1 => k_mem
  case m2 => k_mem
  case hc => assumption
  case m3 => k_mem
  case m4 => k_mem
  case m5 => k_mem
  case m6 => k_mem
  case m7 => k_mem
  case mY => (repeat (refine sub_cons ?_)); exact fun _ h => h
  case hk => omega
  case hp => omega
  case hsz => rw [byteArr_size, List.length_map, rangeKs_length]; decide
end
theorem lawx : PySem.Challenge.rw_tk0093_01.Holds := Mine.lawA ⟨Mine.lawB ⟨Mine.lawF⟩ ⟨Mine.lawT ⟨Mine.lawU0 ⟨Mine.lawV0 ⟨Mine.eW0⟩ ⟨Mine.eX0⟩ ⟨Mine.eY0⟩⟩⟩ ⟨Mine.lawU1 ⟨Mine.lawV1 ⟨Mine.eW1⟩ ⟨Mine.eX1⟩ ⟨Mine.eY1⟩⟩⟩⟩⟩
end Mine
theorem PySem.Challenge.cw_tk0093_01_holds : PySem.Challenge.rw_tk0093_01.Holds := by
  exact Mine.lawx
