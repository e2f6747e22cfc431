import PyProof.Rows.All
import Wide.All
import OpenK.AllK
import Wide.FinOn
import PySem.Challenge.RW_or0016_01
set_option Elab.async false

section
set_option maxRecDepth 100000
set_option maxHeartbeats 8000000
open PySem PySem.W PyProof.Rows
namespace Mine
open_top hd for PySem.Challenge.rw_or0016_01
end Mine

end

section
set_option maxRecDepth 100000
set_option maxHeartbeats 8000000
open PySem PySem.W PyProof.Rows PySem.Calls
namespace Mine
open PySem.Challenge
noncomputable abbrev view := Mine.hd.view_39
noncomputable abbrev loose := looseW Mine.hd.view_39 [Str.ofString "PostError"]
noncomputable abbrev prg := rw_or0016_01.row.prog

theorem prime {w : World} {h : Heap} : (Mine.hd.heap_39 w.params).In h → rw_or0016_01.prog = rw_or0016_01.prog := by
  k_fill
  intro _; rfl

/-- what a call stands upon -/
structure Cx (w : World) (mean : ExcName → Option Value) (mg mb : Str → Option Value) (A : Around) (outer : List Env) (base h : Heap) : Prop where
  below : Below A base outer h
  dicts : KtsDicts (outer.filterMap (·.frame)) h
  K : (Mine.hd.heap_39 w.params).In base
  T : Top view loose mean mg mb base
  handled : A.handled = none

/-- the heap kept all but the object at p -/
def KeepBut (S : List Addr) (h h' : Heap) : Prop := ∀ b o, b ∉ S → h.get? b = some o → h'.get? b = some o
theorem KeepBut.refl {S : List Addr} {h : Heap} : KeepBut S h h := fun _ _ _ e => e
theorem KeepBut.trans {S : List Addr} {h₁ h₂ h₃ : Heap} (x : KeepBut S h₁ h₂) (y : KeepBut S h₂ h₃) : KeepBut S h₁ h₃ := fun b o n e => y b o n (x b o n e)
theorem KeepBut.mono {S T : List Addr} {h h' : Heap} (x : KeepBut S h h') (hs : ∀ b ∈ S, b ∈ T) : KeepBut T h h' := fun b o n e => x b o (fun q => n (hs b q)) e

section
variable {w : World} {mean : ExcName → Option Value} {mg mb : Str → Option Value} {A : Around} {outer : List Env} {base h h' : Heap} {S : List Addr}

theorem Cx.off (C : Cx w mean mg mb A outer base h) {p : Addr} {o : Obj} (hp : h.get? p = some o) (hd : ∀ es n, o.data ≠ .dict es n) : p ∉ outer.filterMap (·.frame) := fun q => by
  obtain ⟨o', es, n, ho, hd'⟩ := C.dicts p q
  rw [hp] at ho
  cases ho
  exact hd es n hd'

theorem frames_at (hk : ∀ b o, b ∈ outer.filterMap (·.frame) → h.get? b = some o → ∃ o', h'.get? b = some o' ∧ o'.data = o.data) (D : h.FunFrames base outer) : h'.FunFrames base outer := by
  induction outer with
  | nil => trivial
  | cons env rest ih =>
    obtain ⟨k1, ⟨L, o, hf, hn, ho, hd⟩, hr⟩ := D
    have hm : L ∈ (env :: rest).filterMap (·.frame) := List.mem_filterMap.mpr ⟨env, .head _, hf⟩
    obtain ⟨o', ho', hd'⟩ := hk L o hm ho
    refine ⟨k1, ⟨L, o', hf, hn, ho', fun vs => hd' ▸ hd vs⟩, ih (fun b o m => hk b o ?_) hr⟩
    obtain ⟨e, he, hfe⟩ := List.mem_filterMap.mp m
    exact List.mem_filterMap.mpr ⟨e, .tail _ he, hfe⟩

theorem Cx.keeps (C : Cx w mean mg mb A outer base h) (k : KeepBut S h h') (hb : ∀ p ∈ S, base.get? p = none) (hf : ∀ p ∈ S, p ∉ outer.filterMap (·.frame)) : Cx w mean mg mb A outer base h' where
  below := ⟨C.below.stack, fun b o e => k b o (fun q => by rw [hb b q] at e; cases e) (C.below.stays b o e), frames_at (fun b o m e => ⟨o, k b o (fun q => hf b q m) e, rfl⟩) C.below.frames⟩
  dicts := fun b m => by
    obtain ⟨o, es, n, ho, hd⟩ := C.dicts b m
    exact ⟨o, es, n, k b o (fun q => hf b q m) ho, hd⟩
  K := C.K
  T := C.T
  handled := C.handled

theorem Cx.push {g : Heap} {L a : Addr} {m : Str → Option Value} {name : Str} {scope : Scope} {cd : Value} (C : Cx w mean mg mb A outer base g) (F : Fr g L h m) (hk : scope.kind = .function := by rfl) :
    Cx w mean mg mb (A.deeper (envOf name scope L a cd)) (envOf name scope L a cd :: outer) base h where
  below := C.below.push F hk
  dicts := fun b hb => by
    rcases kts_mem hb with rfl | hb
    · obtain ⟨o, es, ep, ho, hd, _⟩ := F.ns
      exact ⟨o, es, ep, ho, hd⟩
    · obtain ⟨o, es, n, ho, hd⟩ := C.dicts b hb
      exact ⟨o, es, n, F.keep b o ho, hd⟩
  K := C.K
  T := C.T
  handled := C.handled
end

/-- a def is entered: its base is the whole heap but the objects of S, which the ledger holds -/
theorem enterH {w : World} {mean : ExcName → Option Value} {mg mb : Str → Option Value} {A : Around} {outer : List Env} {base : Heap} {s : Shared} {R : Result → Shared → Prop}
    {name qual : Str} {params : Arguments} {body : List Stmt} {scope : Scope} {dV kV doc pm cdv ct oc : Value} {an od : Option Addr} {osl : Array (Option Value)} {f : Addr} {args : Args} {binds : List (Str × Value)}
    (C : Cx w mean mg mb A outer base s.heap) (S : List (Addr × Obj)) (hS : ∀ q ∈ S, s.heap.get? q.1 = some q.2 ∧ base.get? q.1 = none ∧ ∀ es n, q.2.data ≠ .dict es n)
    (ho : (Mine.hd.heap_39 w.params).lookup f = some ⟨oc, od, .func (fnOf name qual params body scope dV kV doc pm an cdv ct), osl⟩) (hcd : codeIn (Mine.hd.heap_39 w.params) cdv qual = true) (hroom : A.depth < recursionLimit)
    (hbind : BindsTo s (fnOf name qual params body scope dV kV doc pm an cdv ct) args binds) (hloc : ∀ y ∈ binds, scope.names.lookup y.1 = some .local)
    (h : ∀ g L' h₁, KeepBut (S.map (·.1)) s.heap g → g.StaysIn s.heap → L' = s.heap.objs.size → Fr g L' h₁ (fun y => binds.reverse.lookup y) → News g L' h₁ S → Cx w mean mg mb A outer base g → Below A base outer g → (Mine.hd.heap_39 w.params).In g → Top view loose mean mg mb g →
      wpAny (model prg w) (A.deeper (envOf qual scope L' f cdv)) (execs body (envOf qual scope L' f cdv))
        (fun fl s' => R (.ok (.ret (match fl with | .ret v => v | _ => .none))) s')
        (fun e s' => wpAny (model prg w) (A.deeper (envOf qual scope L' f cdv)) (leaving (envOf qual scope L' f cdv) e) (fun _ s'' => R (.error e) s'') (fun e' s'' => R (.error e') s'') s')
        { s with heap := h₁, toks := s.toks + binds.length })
    (hco : scope.isCoroutine = false) (hgen : scope.isGenerator = false) (hk : scope.kind = .function)
    (hcell : ∀ x ∈ scope.names, x.2 ≠ .cell) : codeAny (model prg w) A (.call (.ref f) args) R s := by
  have X : (Mine.hd.heap_39 w.params).In s.heap := C.K.keeps C.below.stays
  have T : Top view loose mean mg mb s.heap := C.T.keeps C.below.stays
  refine codeAny_call_def (fd := fnOf name qual params body scope dV kV doc pm an cdv ct) (body := body) (binds := binds) hroom (X _ _ ho) rfl T.nolimit (codeRec_of X hcd) rfl hbind hcell hloc (fun h₁ hns hk₁ => ?_) hco hgen hk
  have hoff : ∀ p ∈ S.map (·.1), base.get? p = none ∧ p ∉ outer.filterMap (·.frame) := fun p hp => by
    obtain ⟨q, hq, rfl⟩ := List.mem_map.mp hp
    obtain ⟨h1, h2, h3⟩ := hS q hq
    exact ⟨h2, C.off h1 h3⟩
  have kg : KeepBut (S.map (·.1)) s.heap (hideAll s.heap (S.map (·.1))) := fun b o n e => hideAll_get _ e n
  have Cg := C.keeps kg (fun p hp => (hoff p hp).1) (fun p hp => (hoff p hp).2)
  exact h _ _ h₁ kg (fun b o e => of_hideAll _ e) rfl ⟨hns, fun b o e => hk₁ b o (of_hideAll _ e), Nat.le_of_eq (hideAll_size _ _)⟩
    (fun p hp => ⟨hk₁ _ _ (hS p hp).1, Nat.ne_of_lt (Heap.lt_size (hS p hp).1), hideAll_none _ (List.mem_map_of_mem hp)⟩) Cg Cg.below (C.K.keeps Cg.below.stays) (C.T.keeps Cg.below.stays)

theorem keep_end {S : List Addr} {h g h' : Heap} {L : Addr} {m : Str → Option Value} (kb : KeepBut S h g) (F : Fr g L h' m) : KeepBut S h h' := fun b o n e => F.keep b o (kb b o n e)

/-- behind a call that turned p's object alone, or nothing -/
theorem back_upd {g h h' : Heap} {L p : Addr} {o o' : Obj} {m : Str → Option Value} {news news' : List (Addr × Obj)} (F : Fr g L h m) (N : News g L h news) (U : Upd p o o' news news')
    (k : KeepBut [p] h h') (hp : h'.get? p = some o') : Fr g L h' m ∧ News g L h' news' := by
  obtain ⟨pre, post, rfl, rfl, a, b⟩ := U.split
  have z := N (p, o) (List.mem_append.mpr (.inr (.head _)))
  have kk : ∀ b o, b ≠ p → h.get? b = some o → h'.get? b = some o := fun b o n e => k b o (fun q => n (List.mem_singleton.mp q)) e
  obtain ⟨oL, es, ep, hL, hd, r⟩ := F.ns
  refine ⟨⟨⟨oL, es, ep, kk L oL (Ne.symm z.2.1) hL, hd, r⟩, fun b o e => kk b o (fun q => by rw [q, z.2.2] at e; cases e) (F.keep b o e), F.above⟩, fun q hq => ?_⟩
  rcases List.mem_append.mp hq with hq | hq
  · exact ⟨kk _ _ (a q hq) (N q (List.mem_append.mpr (.inl hq))).1, (N q (List.mem_append.mpr (.inl hq))).2⟩
  · rcases List.mem_cons.mp hq with rfl | hq
    · exact ⟨hp, z.2⟩
    · exact ⟨kk _ _ (b q hq) (N q (List.mem_append.mpr (.inr (.tail _ hq)))).1, (N q (List.mem_append.mpr (.inr (.tail _ hq)))).2⟩
theorem back_but {g h h' : Heap} {L : Addr} {m : Str → Option Value} {S : List Addr} (F : Fr g L h m) (k : KeepBut S h h') (hS : ∀ p ∈ S, p ≠ L ∧ g.get? p = none) : Fr g L h' m := by
  obtain ⟨oL, es, ep, hL, r⟩ := F.ns
  exact ⟨⟨oL, es, ep, k L oL (fun q => (hS L q).1 rfl) hL, r⟩, fun b o e => k b o (fun q => by rw [(hS b q).2] at e; cases e) (F.keep b o e), F.above⟩
theorem fresh_at {g h : Heap} {L b : Addr} {m : Str → Option Value} (F : Fr g L h m) (hb : h.get? b = none) : b ≠ L ∧ g.get? b = none := by
  obtain ⟨oL, es, ep, hL, r⟩ := F.ns
  refine ⟨fun q => (by rw [q, hL] at hb; cases hb), ?_⟩
  cases q : g.get? b with
  | none => rfl
  | some o => rw [F.keep b o q] at hb; cases hb
theorem back_keep {g h h' : Heap} {L : Addr} {m : Str → Option Value} {news : List (Addr × Obj)} (F : Fr g L h m) (N : News g L h news) (k : KeepBut [] h h') : Fr g L h' m ∧ News g L h' news := by
  have kk : ∀ b o, h.get? b = some o → h'.get? b = some o := fun b o e => k b o (fun q => nomatch q) e
  obtain ⟨oL, es, ep, hL, r⟩ := F.ns
  exact ⟨⟨⟨oL, es, ep, kk L oL hL, r⟩, fun b o e => kk b o (F.keep b o e), F.above⟩, fun q hq => ⟨kk _ _ (N q hq).1, (N q hq).2⟩⟩
end Mine

end

section
set_option maxRecDepth 100000
set_option maxHeartbeats 8000000
open PySem PySem.W PyProof.Rows PySem.Calls
namespace Mine
open PySem.Challenge

def takeR : List Int → Int → Int × List Int
  | [], _ => (0, [])
  | x :: r, many => (x.fmod many, if x.fdiv many = 0 then r else x.fdiv many :: r)

theorem prime' {w : World} {h : Heap} : (Mine.hd.heap_39 w.params).In h → rw_or0016_01.prog = rw_or0016_01.prog := by
  k_fill
  intro _; rfl

theorem take_spec {w : World} {mean : ExcName → Option Value} {mg mb : Str → Option Value} {A : Around} {outer : List Env} {base : Heap} {s : Shared} {Q E : Value → Shared → Prop}
    (C : Cx w mean mg mb A outer base s.heap) (hd : A.depth + 1 < recursionLimit) (hu : A.units + 8 < cLine) {p : Addr} {vs : List Value} {xs : List Int} {n : Nat}
    (hp : s.heap.get? p = some (listOf vs.toArray n)) (hpb : base.get? p = none) (hi : IntsAre vs xs) (hlen : xs.length ≤ 24) (many : Int) (hm : 0 < many) (hm2 : many ≤ 10000) (t : Tok)
    (ret : ∀ h' tk' vs' n' t', KeepBut [p] s.heap h' → h'.get? p = some (listOf (List.toArray vs') n') → IntsAre vs' (takeR xs many).2 → Q (.int (takeR xs many).1 t') { s with heap := h', toks := tk' }) :
    wpAny (model prg w) A (call (.ref 83) [.ref p, .int many t]) Q E s := by
  w_top off
  refine wpAny_call ?_
  cases hi with
  | nil =>
    refine' enterH C [(p, listOf #[] n)] ?hS ?ho ?hcd ?hroom ?hb ?hl ?_ ?c2 ?c3 ?c4 ?c5
    case hS => intro q hq; cases List.mem_singleton.mp hq; exact ⟨hp, hpb, fun _ _ e => nomatch e⟩
    case ho => k_is
    case hcd => k_is
    case hroom => omega
    case hb => exact BindsTo.of_eq rfl
    case hl => exact locs rfl
    case c2 => exact rfl
    case c3 => exact rfl
    case c4 => exact rfl
    case c5 => decide
    intro g' L' h' kb st hL F' N' Cg B' X' T'
    try dsimp only
    try k_fold
    k_steps
    refine' ret _ _ [] n _ (keep_end kb (by assumption)) ?_ .nil
    exact (News.get (by assumption) (by k_mem))
  | @cons x t1 vs xs hi =>
    have hvl := hi.length
    have hvl2 : vs.length ≤ 23 := by simp only [List.length_cons] at hlen; omega
    refine' enterH C [(p, listOf (.int x t1 :: vs).toArray n)] ?hS ?ho ?hcd ?hroom ?hb ?hl ?_ ?c2 ?c3 ?c4 ?c5
    case hS => intro q hq; cases List.mem_singleton.mp hq; exact ⟨hp, hpb, fun _ _ e => nomatch e⟩
    case ho => k_is
    case hcd => k_is
    case hroom => omega
    case hb => exact BindsTo.of_eq rfl
    case hl => exact locs rfl
    case c2 => exact rfl
    case c3 => exact rfl
    case c4 => exact rfl
    case c5 => decide
    intro g' L' h' kb st hL F' N' Cg B' X' T'
    try dsimp only
    try k_fold
    k_steps
    · exfalso; omega
    · rename_i h2 F2 N2 t5 h0
      refine kl_popAt F2 N2 rfl (k := 0) (p := []) (q := vs) (y := Value.int (x.fdiv many) _) (by simp [seqIndex?]) rfl (Upd.head (List.forall_mem_nil _)) (by show (_ :: vs).length ≤ sizeLine; rw [sizeLine_eq]; simp only [List.length_cons]; omega) ?_
      intro h3 F3 N3
      (try dsimp only [List.nil_append] at N3)
      k_steps
      have h0' : x.fdiv many = 0 := h0
      refine' ret _ _ vs _ _ (keep_end kb (by assumption)) (News.get (by assumption) (by k_mem)) ?_
      simp only [takeR, h0', if_true]
      exact hi
    · rename_i h2 F2 N2 t5 h0
      have h0' : ¬ x.fdiv many = 0 := h0
      refine' ret _ _ (_ :: vs) _ _ (keep_end kb (by assumption)) (News.get (by assumption) (by k_mem)) ?_
      simp only [takeR, h0', if_false]
      exact .cons _ _ hi
end Mine

end

section
set_option maxRecDepth 100000
set_option maxHeartbeats 8000000
open PySem PySem.W PyProof.Rows PySem.Calls
namespace Mine
open PySem.Challenge

theorem primeX {w : World} {h : Heap} : (Mine.hd.heap_39 w.params).In h → rw_or0016_01.prog = rw_or0016_01.prog := by
  k_fill
  intro _; rfl

abbrev faultMro : List Value := [.ref 39, .type "Exception", .type "BaseException", .type "object"]
abbrev faultCls (nm q : Str) (N : Addr) (bs : List Value) (hdct : Bool) (sn : List Str) (sub : List Value) (ab : Bool) (col : Option Bool) (dd : Option Addr) (k0 k1 k2 k3 k5 : Option Value) : Obj :=
  excClassObj nm q 52 N bs faultMro hdct sn sub ab col dd k0 k1 k2 k3 k5 "Exception.__new__"

theorem cls52 {w : World} {h : Heap} (X : (Mine.hd.heap_39 w.params).In h) : ∃ nm q N bs sn sub ab col dd k0 k1 k2 k3 k5, h.get? 52 = some (faultCls nm q N bs true sn sub ab col dd k0 k1 k2 k3 k5) := by
  have e := X 52 _ (by k_is)
  exact ⟨_, _, _, _, _, _, _, _, _, _, _, _, _, _, e⟩

section
variable {prog : Program} {w : World} {A : Around} {E : Value → Shared → Prop} {R : Result → Shared → Prop} {h : Heap} {g : Array GenState} {d : Drawn} {t : Nat} {os : OsState}
variable {nm q : Str} {N : Addr} {bs : List Value} {hdct : Bool} {sn : List Str} {sub : List Value} {ab : Bool} {col : Option Bool} {dd : Option Addr} {k0 k1 k2 k3 k5 : Option Value}

theorem fault_check_new {M : Model} {rest : List Value} {Q : Unit → Shared → Prop} (hC : h.get? 52 = some (faultCls nm q N bs hdct sn sub ab col dd k0 k1 k2 k3 k5))
    (hq : Q () ⟨h, g, d, t, os⟩) : wpAny M A (checkBuiltinCall "Exception.__new__" ⟨.ref 52 :: rest, []⟩) Q E ⟨h, g, d, t, os⟩ := by
  have F := PySem.F.excBase_Exception
  have hstar := F.noStar
  have c1 : (Value.ref 52 :: faultMro).contains (.type "Exception") = true := by decide +kernel
  simp only [checkBuiltinCall, F.newKind, F.newSplit, F.newRow]
  repeat (first | refine wpAny_loadPart_at hC ?_ | (refine wpAny_isSubtype_exc hC ?_; rw [c1]) | refine wpAny_staticBase_exc hC ?_ | refine wpAny_madeBy_exc hC ?_ | simp only [bne_self_eq_false, Bool.false_eq_true, if_false] | wp_step)
  exact hq

theorem fault_new {rest : List Value} (hC : h.get? 52 = some (faultCls nm q N bs hdct sn sub ab col dd k0 k1 k2 k3 k5)) (hrest : rest.length ≤ sizeLine)
    (hq : R (.ok (.ret (.ref (h.objs.size + 1)))) ⟨(h.push { cls := .type "tuple", data := .seq rest.toArray }).push { cls := .ref 52, data := .fields #[.ref h.objs.size, .none, .none, .none, .bool false, .none] }, g, d, t, os⟩) :
    codeAny (model prog w) A (.builtin "Exception.__new__" ⟨.ref 52 :: rest, []⟩) R ⟨h, g, d, t, os⟩ := by
  have F := PySem.F.excBase_Exception
  have hends := F.ends
  have c1 : (Value.ref 52 :: faultMro).contains (.type "Exception") = true := by decide +kernel
  have c2 : (Value.ref 52 :: faultMro).contains (.type "AttributeError") = false := by decide +kernel
  have c3 : (Value.ref 52 :: faultMro).contains (.type "NameError") = false := by decide +kernel
  refine codeAny_builtinAt F.entry ?_
  unfold Builtin.«BaseException.__new__»
  refine PySem.wpAt_bind ?_
  show PySem.wpAt _ _ _ (stack >>= _) _ _ _
  refine PySem.wpAt_bind (PySem.wpAt_stack fun p below => PySem.wpAt_of_wpAny ?_)
  wp_walk
  refine PySem.wpAt_of_wpAny ?_
  rw [F.owner]
  repeat (first | with_reducible refine wpAny_madeHere_exc F.canon hC ?_ | with_reducible refine wpAny_loadPart_at hC ?_ | (with_reducible refine wpAny_isSubtype_exc hC ?_; first | rw [c1] | rw [c2] | rw [c3]) | wp_step)
  show R _ _
  rw [Heap.size_push]
  exact hq
abbrev excObj (d : Option Addr) (t0 : Addr) : Obj := { cls := .ref 52, dict := d, data := .fields #[.ref t0, .none, .none, .none, .bool false, .none] }

theorem fault_check_init {M : Model} {e : Addr} {oe : Obj} {rest : List Value} {Q : Unit → Shared → Prop} (hC : h.get? 52 = some (faultCls nm q N bs hdct sn sub ab col dd k0 k1 k2 k3 k5)) (he : h.get? e = some oe) (hcls : oe.cls = .ref 52)
    (hq : Q () ⟨h, g, d, t, os⟩) : wpAny M A (checkBuiltinCall "Exception.__init__" ⟨.ref e :: rest, []⟩) Q E ⟨h, g, d, t, os⟩ := by
  have F := PySem.F.excBase_Exception
  have hshort := F.noStar
  have c1 : (Value.ref 52 :: faultMro).contains (.type "Exception") = true := by decide +kernel
  simp only [checkBuiltinCall, F.initKind, F.initSplit, F.initRow]
  repeat (first | (with_reducible refine wpAny_loadPart_at he ?_; rw [hcls]) | with_reducible refine wpAny_loadPart_at hC ?_ | (with_reducible refine wpAny_isSubtype_exc hC ?_; rw [c1]) | wp_step)
  refine wpAny_onRaise ?_
  rw [show ∀ (a b : String) (n : Nat), Bind.check ⟨.positional, "*", "Exception", .self, [⟨"args", .varPos, false⟩]⟩ a b n (List.map (fun x => x.fst) ({ pos := Value.ref e :: rest } : Args).kw) = pure () from
    fun a b n => check_star_args _ _ _ _ _ _]
  exact wpAny_pure hq

theorem fault_init {e t0 : Addr} {v : Value} {Q : Value → Shared → Prop} (hC : h.get? 52 = some (faultCls nm q N bs hdct sn sub ab col dd k0 k1 k2 k3 k5)) (he : h.get? e = some (excObj none t0))
    (hq : ∀ h' t', KeepBut [e] h h' → h'.get? e = some (excObj none t') → h.get? t' = none → Q .none ⟨h', g, d, t, os⟩) :
    wpAny (model prog w) A (call (.builtin "Exception.__init__") [.ref e, v]) Q E ⟨h, g, d, t, os⟩ := by
  have F := PySem.F.excBase_Exception
  refine wpAny_call (codeAny_call_builtin F.init.plain F.initEntry (fault_check_init hC he rfl ?_))
  wp_walk
  refine hq _ h.objs.size (fun b o n hb => ?_) ?_ (Heap.get?_none_of_le (Nat.le_refl _))
  · rw [Heap.get?_update_other _ _ (fun q => n (by rw [q]; exact .head _))]
    exact Heap.get?_push_of_some _ hb
  · rw [Heap.get?_update_self _ (Heap.get?_push_of_some _ he) rfl]
    rfl
end
end Mine

end

section
set_option maxRecDepth 100000
set_option maxHeartbeats 8000000
open PySem PySem.W PyProof.Rows PySem.Calls
namespace Mine
open PySem.Challenge

theorem primeX2 {w : World} {h : Heap} : (Mine.hd.heap_39 w.params).In h → rw_or0016_01.prog = rw_or0016_01.prog := by
  k_fill
  intro _; rfl

section
open Builtin Builtin.ObjectAttr
variable {prog : Program} {w : World} {A : Around} {E : Value → Shared → Prop} {R : Result → Shared → Prop} {h : Heap} {g : Array GenState} {d : Drawn} {t : Nat} {os : OsState}

/-- object.__setattr__ at a fault, up to the store itself -/
theorem fault_osa {e : Addr} {oe : Obj} {name : Str} {tk : Tok} {v : Value} (X : (Mine.hd.heap_39 w.params).In h) (he : h.get? e = some oe) (hc : oe.cls = .ref 52)
    (ht : takerIn (Mine.hd.heap_39 w.params) 52 name = some none)
    (k : ∀ b, wpAny (model prog w) A.in1 (storeInOwnDict (.ref e) (.ref 52) (.str name tk) name v b)
      (fun fin s' => match fin with | .done f => R (.ok f) s' | .again c' => c'.quiet = true ∧ codeAny (model prog w) A c' R s') (fun e s' => R (.error e) s') ⟨h, g, d, t, os⟩) :
    codeAny (model prog w) A (.call (.builtin "object.__setattr__") ⟨[.ref e, .str name tk, v], []⟩) R ⟨h, g, d, t, os⟩ := by
  have SF := PySem.F.store_Exception
  have ty : Looks (model prog w) h (typeOf (.ref e)) (.ref 52) := (Looks.ld he).andThen (by rw [hc]; exact .now)
  have sub : Looks (model prog w) h (isInstance (.ref e) (.type "object")) true := ty.andThen (looks_mroIn X (by k_is))
  refine codeAny_call_builtin SF.slot.plain SF.entry (@check_slot (model prog w) _ _ ⟨h, g, d, t, os⟩ "object.__setattr__" "object" "__setattr__" (.ref e) [.str name tk, v] [] _ SF.kind SF.split sub (SF.args (.ref e) (.str name tk) v) ?_)
  obtain ⟨attr, ha, hr⟩ := Option.bind_eq_some_iff.mp ht
  have L3 : Looks (model prog w) h (storeTaker? attr) none := by
    cases attr with
    | none => exact .now
    | some a =>
      obtain ⟨b, hb, hz⟩ := Option.map_eq_some_iff.mp hr
      refine (looks_takesIn X hb).andThen ?_
      cases b with
      | true => cases hz
      | false => exact .now
  have hp := SF.passes (.ref e)
  obtain ⟨nm, q, N, bs, sn, sub, ab, col, dd, k0, k1, k2, k3, k5, hC⟩ := cls52 X
  rw [osa_eq, refuse_eq]
  refine wpAny_bind (wpAny_bind (ty.at (wpAny_bind (wpAny_mroOf_exc hC ?_))))
  rw [refuseLoop_ref, refuseLoop_ref, hp]
  exact wpAny_pure (wpAny_bind (ty.at (wpAny_bind ((looks_findIn X ha).at (wpAny_bind (L3.at (k _)))))))

theorem fault_store {dx : Addr} {tk : Tok} {name : Str} {v : Value} {mA : Str → Option Value} {ns : List Str} {Q : PySem.Fin → Shared → Prop} (hn : h.Ns1 dx mA) (hw : Within mA ns) (hsz : ns.length ≤ 1000)
    (k : ∀ h' tk', h'.Ns1 dx (fun y => if y = name then some v else mA y) → Heap.SameBut dx h h' → Q (.done (.ret .none)) ⟨h', g, d, tk', os⟩) :
    wpAny (model prog w) A (storeInDict dx (.str name tk) name v) Q E ⟨h, g, d, t, os⟩ := by
  unfold storeInDict newKeyGuard
  refine wpAny_bind (wpAny_pure (wpAny_bind (wpAny_nsSet1 hn fun h' hn' hs => ?_)))
  obtain ⟨oD, esD, epD, hoD, hdD, hcD⟩ := hn'.count (Within.cons name v hw)
  refine wpAny_bind (wpAny_lookBehind hoD (by rw [hdD]; exact pastItsLine_dict (Nat.le_trans hcD (by rw [List.length_cons, sizeLine_eq]; omega))) ?_)
  exact wpAny_pure (k h' _ hn' hs)

theorem fault_set1 {e t0 : Addr} {name : Str} {v : Value} {Q : Unit → Shared → Prop} (X : (Mine.hd.heap_39 w.params).In h) (he : h.get? e = some (excObj none t0))
    (ht : takerIn (Mine.hd.heap_39 w.params) 52 name = some none)
    (k : ∀ h' tk', KeepBut [e] h h' → h'.get? e = some (excObj (some h.objs.size) t0) → h'.Ns1 h.objs.size (fun y => if y = name then some v else none) → Q () ⟨h', g, d, tk', os⟩) :
    wpAny (model prog w) A (setAttr (.ref e) name v) Q E ⟨h, g, d, t, os⟩ := by
  obtain ⟨nm, q, N, bs, sn, sub, ab, col, dd, k0, k1, k2, k3, k5, hC⟩ := cls52 X
  have I : InstAt h e (excObj none t0) 52 none := ⟨he, rfl, rfl, trivial⟩
  refine set_plain (s := ⟨h, g, d, t, os⟩) X I (by k_is) (fault_osa X he rfl ht fun b => ?_)
  have hx₁ : (h.push { cls := .type "dict", data := .dict #[] }).get? e = some (excObj none t0) := Heap.get?_push_of_some _ he
  have hxs : e ≠ h.objs.size := Nat.ne_of_lt (Heap.lt_size he)
  have hgd : ((h.push { cls := .type "dict", data := .dict #[] }).update e fun o => { cls := o.cls, dict := some h.objs.size, data := o.data, slots := o.slots }).get? h.objs.size
      = some { cls := .type "dict", data := .dict #[] } :=
    (Heap.get?_update_ne _ _ _ _ hxs.symm).trans (Heap.get?_push_at rfl rfl)
  have hnd : ((h.push { cls := .type "dict", data := .dict #[] }).update e fun o => { cls := o.cls, dict := some h.objs.size, data := o.data, slots := o.slots }).Ns h.objs.size (fun _ => none) :=
    ⟨_, #[], _, hgd, rfl, fun e he => absurd he (by simp), fun _ => rfl⟩
  have fin : ∀ h' tk', h'.Ns1 h.objs.size (fun y => if y = name then some v else none) → Heap.SameBut h.objs.size ((h.push { cls := .type "dict", data := .dict #[] }).update e fun o => { cls := o.cls, dict := some h.objs.size, data := o.data, slots := o.slots }) h' → Q () ⟨h', g, d, tk', os⟩ := fun h' tk' hn hs => by
    refine k h' tk' (fun b o n hb => ?_) ?_ hn
    · refine (hs.2 b (Nat.ne_of_lt (Heap.lt_size hb))).trans ((Heap.get?_update_ne _ _ _ _ (fun q => n (by rw [q]; exact .head _))).trans (Heap.get?_push_of_some _ hb))
    · exact (hs.2 e hxs).trans (Heap.get?_update_self _ hx₁ rfl)
  refine wpAny_bind (wpAny_pure (wpAny_bind (wpAny_bind (wpAny_loadPart he ?_))))
  repeat (first | with_reducible refine fault_store (Heap.Ns1.of_empty hnd) Within.nil (Nat.zero_le _) fin | with_reducible refine wpAny_loadPart_at hC ?_ | (with_reducible refine wpAny_update' hx₁ ?_) | wp_step)

theorem fault_set2 {e t0 dx : Addr} {name : Str} {v : Value} {mA : Str → Option Value} {ns : List Str} {Q : Unit → Shared → Prop} (X : (Mine.hd.heap_39 w.params).In h) (he : h.get? e = some (excObj (some dx) t0))
    (hn : h.Ns1 dx mA) (hw : Within mA ns) (hsz : ns.length ≤ 1000) (ht : takerIn (Mine.hd.heap_39 w.params) 52 name = some none)
    (k : ∀ h' tk', KeepBut [dx] h h' → h'.Ns1 dx (fun y => if y = name then some v else mA y) → Q () ⟨h', g, d, tk', os⟩) :
    wpAny (model prog w) A (setAttr (.ref e) name v) Q E ⟨h, g, d, t, os⟩ := by
  obtain ⟨nm, q, N, bs, sn, sub, ab, col, dd, k0, k1, k2, k3, k5, hC⟩ := cls52 X
  obtain ⟨od, es, ep, hod, _⟩ := id hn
  have I : InstAt h e (excObj (some dx) t0) 52 (some od) := ⟨he, rfl, rfl, hod⟩
  refine set_plain (s := ⟨h, g, d, t, os⟩) X I (by k_is) (fault_osa X he rfl ht fun b => ?_)
  have fin : ∀ h' tk', h'.Ns1 dx (fun y => if y = name then some v else mA y) → Heap.SameBut dx h h' → Q () ⟨h', g, d, tk', os⟩ := fun h' tk' hn hs =>
    k h' tk' (fun b o n hb => (hs.2 b (fun q => n (by rw [q]; exact .head _))).trans hb) hn
  refine wpAny_bind (wpAny_pure (wpAny_bind (wpAny_bind (wpAny_loadPart he ?_))))
  repeat (first | with_reducible refine fault_store hn hw hsz fin | with_reducible refine wpAny_loadPart_at hC ?_ | wp_step)
end

theorem init_spec {w : World} {mean : ExcName → Option Value} {mg mb : Str → Option Value} {A : Around} {outer : List Env} {base : Heap} {s : Shared} {Q E : Value → Shared → Prop}
    (C : Cx w mean mg mb A outer base s.heap) (hd : A.depth + 1 < recursionLimit) {e t0 : Addr} (he : s.heap.get? e = some (excObj none t0)) (heb : base.get? e = none) {what : Str} {k : Int} (t1 t2 : Tok)
    (ret : ∀ h' tk' d t' mA, KeepBut [e] s.heap h' → h'.get? e = some (excObj (some d) t') → d ≠ e → s.heap.get? d = none → h'.Ns1 d mA → mA (Str.ofString "at") = some (.int k t2) → Q .none { s with heap := h', toks := tk' }) :
    wpAny (model prg w) A (call (.ref 29) [.ref e, .str what t1, .int k t2]) Q E s := by
  w_top off
  have X0 : (Mine.hd.heap_39 w.params).In s.heap := C.K.keeps C.below.stays
  refine wpAny_call ?_
  refine' enterH C [(e, excObj none t0)] ?hS ?ho ?hcd ?hroom ?hb ?hl ?_ ?c2 ?c3 ?c4 ?c5
  case hS => intro q hq; cases List.mem_singleton.mp hq; exact ⟨he, heb, fun _ _ e => nomatch e⟩
  case ho => k_is
  case hcd => k_is
  case hroom => omega
  case hb => exact binds_K X0 rfl (by k_is) rfl rfl rfl
  case hl => exact locs rfl
  case c2 => exact rfl
  case c3 => exact rfl
  case c4 => exact rfl
  case c5 => decide
  intro g' L' h' kb st hL F' N' Cg B' X' T'
  try dsimp only
  try k_fold
  k_steps
  refine method_type F' X' (by kernel_rfl) (by decide +kernel) (by k_is) (by k_handed) ?_
  k_steps
  obtain ⟨nm, q, N9, bs, sn, sub, ab, col, dd, k0, k1, k2, k3, k5, hC⟩ := cls52 (X'.keeps F'.keep)
  refine fault_init hC (N' _ (.head _)).1 fun h1 t' kp1 he1 _ => ?_
  obtain ⟨F1, N1⟩ := back_upd F' N' (Upd.head (List.forall_mem_nil _)) kp1 he1
  have X1' := X'.keeps F1.keep
  clear F' N' hC
  k_steps
  refine fault_set1 X1' he1 (by k_is) fun h2 tk2 kp2 he2 hn2 => ?_
  have F2 := back_but F1 kp2 (fun p hp => by rw [List.mem_singleton.mp hp]; exact (N1 _ (.head _)).2)
  have e1 : h1.get? h1.objs.size = none := Heap.get?_none_of_le (Nat.le_refl _)
  have fr := fresh_at F1 e1
  have hne : h1.objs.size ≠ e := fun q => by rw [q, he1] at e1; cases e1
  have hd0 : s.heap.get? h1.objs.size = none := by
    cases q : s.heap.get? h1.objs.size with
    | none => rfl
    | some o =>
      have := F1.keep _ _ (kb _ _ (fun z => hne (List.mem_singleton.mp z)) q)
      rw [e1] at this
      cases this
  have X2' := X'.keeps F2.keep
  have N2 : News g' L' h2 [] := News.nil
  have heg := (N1 _ (.head _)).2
  clear F1 N1
  k_steps
  refine fault_set2 X2' he2 hn2 (Within.cons _ _ Within.nil) (by decide) (by k_is) fun h3 tk3 kp3 hn3 => ?_
  have F3 := back_but F2 kp3 (fun p hp => by rw [List.mem_singleton.mp hp]; exact fr)
  have N3 : News g' L' h3 [] := News.nil
  clear F2 N2
  k_steps
  refine ret h3 _ _ t' _ (keep_end kb F3) (kp3 _ _ (fun z => hne (List.mem_singleton.mp z).symm) he2) hne hd0 hn3 ?_
  rw [if_pos rfl]
end Mine

end

section
set_option maxRecDepth 100000
set_option maxHeartbeats 8000000
open PySem PySem.W PyProof.Rows PySem.Calls
namespace Mine
open PySem.Challenge

theorem primeX3 {w : World} {h : Heap} : (Mine.hd.heap_39 w.params).In h → rw_or0016_01.prog = rw_or0016_01.prog := by
  k_fill
  intro _; rfl

theorem fault_type_call {w : World} {A : Around} {E : Value → Shared → Prop} {h : Heap} {g : Array GenState} {d : Drawn} {t : Nat} {os : OsState} {rest : List Value} {Q : PySem.Fin → Shared → Prop}
    (X : (Mine.hd.heap_39 w.params).In h) (hrest : rest.length ≤ sizeLine)
    (hq : wpAny (model prg w) A (call (.ref 29) (.ref (h.objs.size + 1) :: rest)) (fun r s' => r = .none ∧ Q (.done (.ret (.ref (h.objs.size + 1)))) s') E
      ⟨(h.push { cls := .type "tuple", data := .seq rest.toArray }).push (excObj none h.objs.size), g, d, t, os⟩) :
    wpAny (model prg w) A (Builtin.«type.__call__» ⟨.ref 52 :: rest, []⟩) Q E ⟨h, g, d, t, os⟩ := by
  have F := PySem.F.excBase_Exception
  obtain ⟨nm, q, N, bs, sn, sub, ab, col, dd, k0, k1, k2, k3, k5, hC⟩ := cls52 X
  repeat (first | with_reducible refine wpAny_loadPart_at hC ?_ | with_reducible refine wpAny_madeBy_exc hC ?_ | wp_step)
  refine codeAny_call_builtin_code (Code.quiet_builtin _ F.quiet) (fault_check_new hC ?_)
  refine fault_new hC hrest ?_
  show wpAny _ _ _ _ _ _
  have keep : ∀ b o, h.get? b = some o → ((h.push { cls := .type "tuple", data := .seq rest.toArray }).push (excObj none h.objs.size)).get? b = some o := fun b o e => Heap.get?_push_of_some _ (Heap.get?_push_of_some _ e)
  have hC₁ := keep _ _ hC
  have X₁ := X.keeps keep
  have hget : ((h.push { cls := .type "tuple", data := .seq rest.toArray }).push (excObj none h.objs.size)).get? (h.objs.size + 1) = some (excObj none h.objs.size) := by heap_get
  have c1 : (Value.ref 52 :: faultMro).contains (.ref 52) = true := by decide +kernel
  unfold isInstance
  repeat (first | with_reducible refine wpAny_loadPart_at hget ?_ | (with_reducible refine wpAny_isSubtype_exc hC₁ ?_; rw [c1]) | wp_step)
  show wpAny _ _ (typeLookup (.ref 52) _) _ _ _
  refine (looks_findIn X₁ (r := some (.ref 29)) (by k_is)).at ?_
  refine wpAny_holding (wpAny_bind ?_)
  unfold bindSpecial
  refine wpAny_bind ((looks_typeIn X₁ (by k_is : typeIn (Mine.hd.heap_39 w.params) (.ref 29) = some (.type "function"))).at ?_)
  rw [if_pos (by decide)]
  refine wpAny_pure (wpAny_bind (wpAny_mono hq (fun r s' hr => ?_) fun _ _ x => x))
  obtain ⟨rfl, hQ⟩ := hr
  wp_walk
  exact hQ

theorem fault_call {w : World} {mean : ExcName → Option Value} {mg mb : Str → Option Value} {A : Around} {outer : List Env} {base : Heap} {s : Shared} {Q E : Value → Shared → Prop}
    (C : Cx w mean mg mb A outer base s.heap) (hd : A.depth + 3 < recursionLimit) {what : Str} {k : Int} (t1 t2 : Tok)
    (ret : ∀ h' tk' e d t' mA, (∀ b o, s.heap.get? b = some o → h'.get? b = some o) → s.heap.get? e = none → h'.get? e = some (excObj (some d) t') → d ≠ e → s.heap.get? d = none → h'.Ns1 d mA → mA (Str.ofString "at") = some (.int k t2) →
      Q (.ref e) { s with heap := h', toks := tk' }) :
    wpAny (model prg w) A (call (.ref 52) [.str what t1, .int k t2]) Q E s := by
  have X : (Mine.hd.heap_39 w.params).In s.heap := C.K.keeps C.below.stays
  obtain ⟨h, g, d, t, os⟩ := s
  dsimp only at X C ret
  obtain ⟨nm, q, N, bs, sn, sub, ab, col, dd, k0, k1, k2, k3, k5, hC⟩ := cls52 X
  have f1 := tc_lookup
  have f2 := tc_bind (.ref 52)
  have hT : (⟨h, g, d, t, os⟩ : Shared).TypeIs (.ref 52) "type" := ⟨_, hC, rfl⟩
  refine wpAny_call (codeAny_of_tree ?_)
  show wpAny _ _ (callAny (.ref 52) _) _ _ _
  repeat (any_goals (first | assumption | with_reducible refine wpAny_loadPart_at hC ?_ | wp_step))
  refine ⟨rfl, ?_⟩
  refine codeAny_call_builtin_at (Code.quiet_builtin _ (by decide +kernel)) entry_typeCall (wpAny_check_type_call_sub hC (fault_type_call X (show 2 ≤ sizeLine by decide) ?_))
  have keep : ∀ b o, h.get? b = some o → ((h.push { cls := .type "tuple", data := .seq #[.str what t1, .int k t2] }).push (excObj none h.objs.size)).get? b = some o := fun b o e => Heap.get?_push_of_some _ (Heap.get?_push_of_some _ e)
  have hget : ((h.push { cls := .type "tuple", data := .seq #[.str what t1, .int k t2] }).push (excObj none h.objs.size)).get? (h.objs.size + 1) = some (excObj none h.objs.size) := by heap_get
  have hnew : h.get? (h.objs.size + 1) = none := Heap.get?_none_of_le (Nat.le_succ _)
  have Cu : Cx w mean mg mb (A.under (.builtin "type.__call__" ⟨[.ref 52, .str what t1, .int k t2], []⟩)) outer base ((h.push { cls := .type "tuple", data := .seq #[.str what t1, .int k t2] }).push (excObj none h.objs.size)) :=
    let C' := C.keeps (S := []) (fun b o _ e => keep b o e) (fun _ hp => nomatch hp) (fun _ hp => nomatch hp)
    ⟨⟨C'.below.stack, C'.below.stays, C'.below.frames⟩, C'.dicts, C'.K, C'.T, C'.handled⟩
  have heb : base.get? (h.objs.size + 1) = none := by
    cases q : base.get? (h.objs.size + 1) with
    | none => rfl
    | some o => rw [C.below.stays _ _ q] at hnew; cases hnew
  have dep : (A.under (.builtin "type.__call__" ⟨[.ref 52, .str what t1, .int k t2], []⟩)).depth = A.depth + 1 := rfl
  refine init_spec (s := ⟨_, _, _, _, _⟩) Cu (by rw [dep]; omega) hget heb t1 t2 fun h' tk' d' t' mA kp he' hne hd0 hn ha => ⟨rfl, ?_⟩
  have hd1 : h.get? d' = none := by
    cases q : h.get? d' with
    | none => rfl
    | some o => exact (nomatch (hd0.symm.trans (keep _ _ q) : (none : Option Obj) = some o))
  refine ret h' tk' _ d' t' mA (fun b o e => kp b o (fun z => ?_) (keep b o e)) hnew he' hne hd1 hn ha
  rw [List.mem_singleton.mp z, hnew] at e
  cases e

theorem fault_raised {w : World} {A : Around} {E : Value → Shared → Prop} {s : Shared} {env : Env} {x : Sem Value} {Q : Flow → Shared → Prop} (hh : A.handled = none)
    (hx : wpAny (model prg w) A x (fun v s₁ => ∃ e d t, v = .ref e ∧ (Mine.hd.heap_39 w.params).In s₁.heap ∧ s₁.heap.get? e = some (excObj d t) ∧ E (.ref e) s₁) E s) :
    wpAny (model prg w) A (raiseStmt env (some x) none) Q E s := by
  have c1 : (Value.ref 52 :: faultMro).contains (.type "BaseException") = true := by decide +kernel
  unfold raiseStmt
  refine wpAny_bind (wpAny_mono hx (fun v s₁ h₁ => ?_) fun _ _ x => x)
  obtain ⟨e, d, t, rfl, X, he, hE⟩ := h₁
  obtain ⟨nm, q, N, bs, sn, sub, ab, col, dd, k0, k1, k2, k3, k5, hC⟩ := cls52 X
  obtain ⟨hp, g, dr, tk, os⟩ := s₁
  repeat (first | with_reducible refine wpAny_loadPart_at he ?_ | with_reducible refine wpAny_loadPart_at hC ?_ | (with_reducible refine wpAny_isSubtype_exc hC ?_; rw [c1]) | wp_step)
  exact wpAny_raiseNew_none hh hE

theorem raise_fault {w : World} {A : Around} {E : Value → Shared → Prop} {s : Shared} {env : Env} {x : PySem.Expr} {pos : Pos} {Q : Flow → Shared → Prop} (hh : A.handled = none)
    (hx : wpAny (model prg w) A (eval x env) (fun v s₁ => ∃ e d t, v = .ref e ∧ (Mine.hd.heap_39 w.params).In s₁.heap ∧ s₁.heap.get? e = some (excObj d t) ∧ E (.ref e) s₁) E s) :
    wpAny (model prg w) A (exec (.Raise (some x) none pos) env) Q E s := by
  rw [arm_exec_Raise]
  refine wpAny_bind (wpAny_standAt (fault_raised hh ?_))
  first
    | exact hx
    | exact wpAny_bind (wpAny_mono hx (fun v s₁ h₁ => wpAny_bind (wpAny_standAt (wpAny_pure h₁))) fun _ _ x => x)
end Mine

end

section
set_option maxRecDepth 100000
set_option maxHeartbeats 8000000
open PySem PySem.W PyProof.Rows PySem.Calls
namespace Mine
open PySem.Challenge

/-- a tree that calls nothing and leaves every object's own dict where it is -/
def Tame {α : Type} : Sem α → Prop
  | .pure _ => True
  | .raise _ => True
  | .unsupported _ => True
  | .finish _ => True
  | .rule _ k => Tame (k ())
  | .at _ k => Tame (k ())
  | .load _ _ k => ∀ o, Tame (k o)
  | .update _ _ f k => (∀ o, (f o).dict = o.dict ∧ (f o).isFreed = o.isFreed) ∧ Tame (k ())
  | .alloc _ k => ∀ a, Tame (k a)
  | .point _ k => Tame (k ())
  | .stack k => ∀ st, Tame (k st)
  | _ => False

def HoldsDicts (h h' : Heap) : Prop := ∀ b o, h.get? b = some o → ∃ o', h'.get? b = some o' ∧ o'.dict = o.dict
theorem HoldsDicts.refl (h : Heap) : HoldsDicts h h := fun _ o e => ⟨o, e, rfl⟩
theorem HoldsDicts.trans {h₁ h₂ h₃ : Heap} (x : HoldsDicts h₁ h₂) (y : HoldsDicts h₂ h₃) : HoldsDicts h₁ h₃ := fun b o e => by
  obtain ⟨o', e', d'⟩ := x b o e
  obtain ⟨o'', e'', d''⟩ := y b o' e'
  exact ⟨o'', e'', d''.trans d'⟩

theorem tame_wp {α : Type} (M : Model) (Γ : Ctx) (h₀ : Heap) : ∀ (t : Sem α) (Q : α → Pos → Shared → Prop) (E : Value → Pos → Shared → Prop) (p : Pos) (s : Shared), Tame t → HoldsDicts h₀ s.heap →
    Sem.wp M Γ t (fun a p s' => HoldsDicts h₀ s'.heap → Q a p s') (fun e p s' => HoldsDicts h₀ s'.heap → E e p s') p s → Sem.wp M Γ t Q E p s := by
  intro t
  induction t with
  | pure a => intro Q E p s _ hk h; exact h hk
  | raise e => intro Q E p s _ hk h; exact h hk
  | unsupported w => intro Q E p s _ _ h; exact h
  | finish e => intro Q E p s _ _ h; exact h
  | rule tag k ih => intro Q E p s ht hk h; exact ih () Q E p s ht hk h
  | «at» p' k ih => intro Q E p s ht hk h; exact ih () Q E p' s ht hk h
  | load a part k ih =>
    intro Q E p s ht hk h
    obtain ⟨o, ho, h⟩ := h
    exact ⟨o, ho, ih o Q E p s (ht o) hk h⟩
  | update a part f k ih =>
    intro Q E p s ht hk h
    obtain ⟨ha, h⟩ := h
    refine ⟨ha, ih () Q E p _ ht.2 (hk.trans fun b o e => ?_) h⟩
    by_cases q : a = b
    · subst q
      exact ⟨f o, Heap.get?_update_self f e ((ht.1 o).2.trans (Heap.get?_some_iff.mp e).2), (ht.1 o).1⟩
    · exact ⟨o, (Heap.get?_update_other _ f q).trans e, rfl⟩
  | alloc o k ih =>
    intro Q E p s ht hk h
    exact ih _ Q E p _ (ht _) (hk.trans fun b o' e => ⟨o', Heap.get?_push_of_some _ e, rfl⟩) h
  | point l k ih => intro Q E p s ht hk h; exact ih () Q E p s ht hk h
  | stack k ih => intro Q E p s ht hk h; exact ih _ Q E p s (ht _) hk h
  | loadIfAlive _ _ _ => intro _ _ _ _ ht; exact ht.elim
  | register _ _ _ => intro _ _ _ _ ht; exact ht.elim
  | fresh _ _ => intro _ _ _ _ ht; exact ht.elim
  | ask _ _ => intro _ _ _ _ ht; exact ht.elim
  | choose _ _ _ _ => intro _ _ _ _ ht; exact ht.elim
  | os _ _ _ _ => intro _ _ _ _ ht; exact ht.elim
  | call _ _ _ _ _ _ => intro _ _ _ _ ht; exact ht.elim
  | handled _ _ _ => intro _ _ _ _ ht; exact ht.elim
  | newGen _ _ _ => intro _ _ _ _ ht; exact ht.elim
  | genState _ _ _ => intro _ _ _ _ ht; exact ht.elim
  | resume _ _ _ _ _ => intro _ _ _ _ ht; exact ht.elim
  | yield _ _ _ _ _ => intro _ _ _ _ ht; exact ht.elim
  | fork _ _ _ => intro _ _ _ _ ht; exact ht.elim
  | thread _ _ => intro _ _ _ _ ht; exact ht.elim
  | await _ _ _ _ _ _ => intro _ _ _ _ ht; exact ht.elim

theorem tame_any {α : Type} {M : Model} {A : Around} {t : Sem α} {Q : α → Shared → Prop} {E : Value → Shared → Prop} {s : Shared} (ht : Tame t)
    (h : wpAny M A t (fun a s' => HoldsDicts s.heap s'.heap → Q a s') (fun e s' => HoldsDicts s.heap s'.heap → E e s') s) : wpAny M A t Q E s :=
  fun Γ p hΓ => tame_wp M Γ s.heap t _ _ p s ht (.refl _) (h Γ p hΓ)

theorem tame_bind {α β : Type} : ∀ (m : Sem α) (f : α → Sem β), Tame m → (∀ a, Tame (f a)) → Tame (m >>= f) := by
  intro m f
  show Tame m → _ → Tame (m.bind f)
  induction m with
  | pure a => intro _ h; exact h a
  | raise e => intro _ _; trivial
  | unsupported w => intro _ _; trivial
  | finish e => intro _ _; trivial
  | rule tag k ih => intro h h'; exact ih () h h'
  | «at» p' k ih => intro h h'; exact ih () h h'
  | load a part k ih => intro h h' o; exact ih o (h o) h'
  | update a part g k ih => intro h h'; exact ⟨h.1, ih () h.2 h'⟩
  | alloc o k ih => intro h h' a; exact ih a (h a) h'
  | point l k ih => intro h h'; exact ih () h h'
  | stack k ih => intro h h' st; exact ih st (h st) h'
  | loadIfAlive _ _ _ => intro h; exact h.elim
  | register _ _ _ => intro h; exact h.elim
  | fresh _ _ => intro h; exact h.elim
  | ask _ _ => intro h; exact h.elim
  | choose _ _ _ _ => intro h; exact h.elim
  | os _ _ _ _ => intro h; exact h.elim
  | call _ _ _ _ _ _ => intro h; exact h.elim
  | handled _ _ _ => intro h; exact h.elim
  | newGen _ _ _ => intro h; exact h.elim
  | genState _ _ _ => intro h; exact h.elim
  | resume _ _ _ _ _ => intro h; exact h.elim
  | yield _ _ _ _ _ => intro h; exact h.elim
  | fork _ _ _ => intro h; exact h.elim
  | thread _ _ => intro h; exact h.elim
  | await _ _ _ _ _ _ => intro h; exact h.elim

theorem mapFields_tame (f : Array Value → Array Value) (o : Obj) : (Obj.mapFields f o).dict = o.dict ∧ (Obj.mapFields f o).isFreed = o.isFreed := by
  obtain ⟨c, d, dt, sl⟩ := o
  cases dt <;> exact ⟨rfl, rfl⟩
theorem slots_tame (g : Obj → Array (Option Value)) (o : Obj) : ({ o with slots := g o } : Obj).dict = o.dict ∧ ({ o with slots := g o } : Obj).isFreed = o.isFreed := by
  obtain ⟨c, d, dt, sl⟩ := o
  cases dt <;> exact ⟨rfl, rfl⟩

theorem tame_fieldsOf (v : Value) : Tame (fieldsOf v) := by
  unfold fieldsOf
  split
  · refine tame_bind _ _ (fun o => trivial) fun o => ?_
    split <;> trivial
  · trivial
theorem tame_field (v : Value) (i : Nat) : Tame (field v i) := by
  unfold field
  refine tame_bind _ _ (tame_fieldsOf v) fun vs => ?_
  split <;> trivial
theorem tame_setField (v : Value) (i : Nat) (x : Value) : Tame (setField v i x) := by
  unfold setField
  split
  · unfold updateField
    refine tame_bind _ _ (fun o => trivial) fun o => ?_
    split
    · split
      · exact ⟨mapFields_tame _, trivial⟩
      · trivial
    · trivial
  · trivial
theorem tame_setFlight (v : Value) (f : Option Addr) : Tame (setFlight v f) := by
  unfold setFlight
  refine tame_bind _ _ (tame_field v 1) fun tb => ?_
  split
  · exact tame_setField _ _ _
  · trivial
theorem tame_keptBack (env : Env) (b : Bool) (l : List Env) : Tame (keptBack env b l) := by
  unfold keptBack
  split
  · split
    · trivial
    · unfold underTheClaimsCaller
      exact tame_bind _ _ (tame_bind _ _ (fun st => trivial) fun st => trivial) fun b => trivial
  · trivial
theorem tame_readyFrames : ∀ l : List Env, Tame (readyFrames l)
  | [] => trivial
  | env :: outer => by
    unfold readyFrames
    split
    · refine tame_bind _ _ (fun o => trivial) fun o => ?_
      split
      · trivial
      · refine tame_bind _ _ ?_ fun b => tame_bind _ _ (tame_keptBack _ _ _) fun bk => tame_bind _ _ ⟨slots_tame _, trivial⟩ fun _ => tame_readyFrames outer
        unfold behindIsImport
        split
        · trivial
        · split
          · trivial
          · exact tame_bind _ _ (tame_field _ _) fun _ => trivial
    · trivial
theorem tame_frameOf (env : Env) : Tame (PySem.frameOf env) := by
  unfold PySem.frameOf frameEnvs
  refine tame_bind _ _ (tame_bind _ _ (fun st => trivial) fun st => trivial) fun l => tame_bind _ _ ?_ fun r => ?_
  · unfold frameObject
    split
    · trivial
    · exact tame_bind _ _ (tame_readyFrames _) fun _ => trivial
  · split <;> trivial
theorem tame_entryPlaceOf (f : Addr) (b : Bool) : Tame (entryPlaceOf f b) := by
  unfold entryPlaceOf
  refine tame_bind _ _ (fun st => trivial) fun acts => ?_
  split <;> trivial
theorem tame_newEntry (a b c d e : Value) (pl : List Value) : Tame (EntryCells.newEntry a b c d e pl) := by
  unfold EntryCells.newEntry newFields newObj
  generalize (if pl.isEmpty = true then List.replicate 6 Value.none else pl) = q
  dsimp only
  split
  · trivial
  · exact fun _ => trivial
theorem tame_noteFrame (v : Value) (env : Env) : Tame (noteFrame v env) := by
  unfold noteFrame
  split
  · refine tame_bind _ _ (tame_field _ _) fun head => ?_
    split
    · refine tame_bind _ _ (tame_field _ _) fun y => ?_
      split
      · trivial
      · exact tame_bind _ _ (tame_setField _ _ _) fun _ => tame_bind _ _ (tame_frameOf _) fun _ => tame_bind _ _ (tame_entryPlaceOf _ _) fun _ => tame_bind _ _ (tame_newEntry _ _ _ _ _ _) fun _ => tame_setField _ _ _
    · exact tame_bind _ _ (tame_frameOf _) fun _ => tame_bind _ _ (tame_entryPlaceOf _ _) fun _ => tame_bind _ _ (tame_newEntry _ _ _ _ _ _) fun _ => tame_setField _ _ _
  · trivial
theorem tame_leaving (v : Value) (env : Env) : Tame (leaving env v) := by
  unfold leaving
  exact tame_bind _ _ (tame_noteFrame _ _) fun _ => tame_setFlight _ _
end Mine

end

section
set_option maxRecDepth 100000
set_option maxHeartbeats 8000000
open PySem PySem.W PyProof.Rows PySem.Calls
namespace Mine
open PySem.Challenge

def framesAt (outer : List Env) : List Addr := outer.filterMap (·.frame)

/-- a fault that bears k flies up to a caller whose heap at the call was h -/
def Flown (outer : List Env) (h h' : Heap) (e : Addr) (k : Int) : Prop :=
  ∃ t0 d mA tk, Heap.FlyingW (hideAll h (framesAt outer)) outer e (.ref 52) (.ref t0) h' ∧ h.UpToSlots h' ∧ (∃ oe, h'.get? e = some oe ∧ oe.dict = some d) ∧ h.get? e = none ∧ h.get? d = none ∧ h'.Ns1 d mA ∧ mA (Str.ofString "at") = some (.int k tk)

theorem ns1_slots {h h' : Heap} {a : Addr} {m : Str → Option Value} (x : h.Ns1 a m) (k : h.UpToSlots h') : h'.Ns1 a m := by
  obtain ⟨o, es, ep, ho, hd, r⟩ := x
  obtain ⟨sl, hs⟩ := k a o ho (fun vs q => by rw [hd] at q; cases q)
  exact ⟨_, es, ep, hs, hd, r⟩

theorem frames_none {h base B : Heap} : ∀ {l : List Env}, h.FunFrames base l → (∀ b ∈ framesAt l, B.get? b = none) → h.FunFrames B l
  | [], _, _ => trivial
  | env :: rest, ⟨hk, ⟨L, o, hf, hn, ho, hd⟩, hr⟩, hb =>
    ⟨hk, ⟨L, o, hf, hb L (List.mem_filterMap.mpr ⟨env, .head _, hf⟩), ho, hd⟩, frames_none hr fun b m => hb b (by
      obtain ⟨e, he, hfe⟩ := List.mem_filterMap.mp m
      exact List.mem_filterMap.mpr ⟨e, .tail _ he, hfe⟩)⟩

theorem flying_base {B B' : Heap} {l : List Env} {e : Addr} {cls a0 : Value} {h : Heap} (x : Heap.FlyingW B l e cls a0 h) (st : B'.StaysIn B) (hb : ∀ b ∈ framesAt l, B'.get? b = none) : Heap.FlyingW B' l e cls a0 h := by
  obtain ⟨x1, x2, x3, oe, vs, T, oT, ts, y1, y2, y3, y4, y5, y6⟩ := x
  have no : ∀ b, B.get? b = none → B'.get? b = none := fun b e => by
    cases q : B'.get? b with
    | none => rfl
    | some o => rw [st b o q] at e; cases e
  exact ⟨fun b o q => x1 b o (st b o q), no e x2, frames_none x3 hb, oe, vs, T, oT, ts, y1, y2, y3, y4, no T y5, y6⟩

section
variable {w : World} {mean : ExcName → Option Value} {mg mb : Str → Option Value} {A : Around} {outer : List Env} {base g h₁ : Heap} {L a : Addr} {m : Str → Option Value} {name : Str} {scope : Scope} {cd : Value} {s s' : Shared} {Q : Unit → Shared → Prop} {E : Value → Shared → Prop} {M : Model}

/-- the frame where the fault was made is left -/
theorem leave_first (Cg : Cx w mean mg mb A outer base g) (kb : KeepBut [] s.heap g) (hL : L = s.heap.objs.size) (F : Fr g L s'.heap m)
    {e d t0 : Addr} {mA : Str → Option Value} {k : Int} {tk : Tok} (he : s'.heap.get? e = some (excObj (some d) t0)) (he0 : s.heap.get? e = none) (hd0 : s.heap.get? d = none) (hn : s'.heap.Ns1 d mA) (ha : mA (Str.ofString "at") = some (.int k tk))
    (hQ : ∀ h', Flown outer s.heap h' e k → Q () { s' with heap := h' }) (hk : scope.kind = .function := by rfl) :
    wpAny M (A.deeper (envOf name scope L a cd)) (leaving (envOf name scope L a cd) (.ref e)) Q E s' := by
  have kk : ∀ b o, s.heap.get? b = some o → s'.heap.get? b = some o := fun b o q => F.keep b o (kb b o (fun z => nomatch z) q)
  have P := Cg.below.push (name := name) (a := a) (cd := cd) F hk
  have hb : ∀ b ∈ framesAt (envOf name scope L a cd :: outer), (hideAll s.heap (framesAt outer)).get? b = none := fun b hb => by
    rcases kts_mem hb with q | q
    · cases z : (hideAll s.heap (framesAt outer)).get? b with
      | none => rfl
      | some o =>
        have := Heap.lt_size (of_hideAll _ z)
        rw [q, hL] at this
        exact absurd this (Nat.lt_irrefl _)
    · exact hideAll_none _ q
  have hen : (hideAll s.heap (framesAt outer)).get? e = none := by
    cases z : (hideAll s.heap (framesAt outer)).get? e with
    | none => rfl
    | some o => have := of_hideAll _ z; rw [he0] at this; cases this
  refine tame_any (tame_leaving _ _) (wpAny_leaving_firstW (base := hideAll s.heap (framesAt outer)) P.stack (frames_none P.frames hb) rfl he (fun b o q => kk b o (of_hideAll _ q)) hen rfl rfl rfl fun h' hl hkd => ?_)
  obtain ⟨l1, ⟨_, _, l2⟩, l3, l4⟩ := hl
  obtain ⟨oe, ho, hod⟩ := hkd e _ he
  exact hQ h' ⟨t0, d, mA, tk, ⟨l1, hen, l2, l3⟩, (Heap.UpToSlots.of_keeps kk).trans l4, ⟨oe, ho, hod⟩, he0, hd0, ns1_slots hn l4, ha⟩

/-- a frame through which the fault flies is left -/
theorem leave_next (C : Cx w mean mg mb A outer base g) (kb : KeepBut [] s.heap g) (hL : L = s.heap.objs.size) (F : Fr g L h₁ m) {e : Addr} {k : Int} (fl : Flown (envOf name scope L a cd :: outer) h₁ s'.heap e k)
    (hQ : ∀ h', Flown outer s.heap h' e k → Q () { s' with heap := h' }) :
    wpAny M (A.deeper (envOf name scope L a cd)) (leaving (envOf name scope L a cd) (.ref e)) Q E s' := by
  obtain ⟨t0, d, mA, tk, f1, f2, ⟨oe, f3, f4⟩, f5, f6, f7, f8⟩ := fl
  have kk : ∀ b o, s.heap.get? b = some o → h₁.get? b = some o := fun b o q => F.keep b o (kb b o (fun z => nomatch z) q)
  have no : ∀ b, h₁.get? b = none → s.heap.get? b = none := fun b e => by
    cases q : s.heap.get? b with
    | none => rfl
    | some o => rw [kk b o q] at e; cases e
  have st : (hideAll s.heap (framesAt outer)).StaysIn (hideAll h₁ (framesAt (envOf name scope L a cd :: outer))) := fun b o q => by
    have q' := of_hideAll _ q
    refine hideAll_get _ (kk b o q') fun z => ?_
    rcases kts_mem z with z | z
    · have := Heap.lt_size q'
      rw [z, hL] at this
      exact absurd this (Nat.lt_irrefl _)
    · have z' : (hideAll s.heap (framesAt outer)).get? b = none := hideAll_none _ z
      rw [z'] at q
      cases q
  refine tame_any (tame_leaving _ _) (wpAny_leaves_onW (Around.frames_deeper C.below.stack) rfl f1 fun h' l1 l2 hkd => ?_)
  obtain ⟨oe', ho, hod⟩ := hkd e _ f3
  exact hQ h' ⟨t0, d, mA, tk, flying_base l1 st (fun b hb => hideAll_none _ hb), ((Heap.UpToSlots.of_keeps kk).trans f2).trans l2, ⟨oe', ho, hod.trans f4⟩, no e f5, no d f6, ns1_slots f7 l2, f8⟩
end
end Mine

end

section
set_option maxRecDepth 100000
set_option maxHeartbeats 8000000
open PySem PySem.W PyProof.Rows PySem.Calls
namespace Mine
open PySem.Challenge

theorem prime1 {w : World} {h : Heap} : (Mine.hd.heap_39 w.params).In h → rw_or0016_01.prog = rw_or0016_01.prog := by
  k_fill
  intro _; rfl

theorem picked_nn (l : List UInt8) {lo hi : Int} (h0 : 0 ≤ lo) (h1 : 0 ≤ hi) : KBy.picked l.toArray (some lo) (some hi) = ((l.drop lo.toNat).take (hi.toNat - lo.toNat)).toArray := by
  rw [KBc.picked_eq]
  obtain ⟨a, rfl⟩ := Int.eq_ofNat_of_zero_le h0
  obtain ⟨b, rfl⟩ := Int.eq_ofNat_of_zero_le h1
  simp only [Option.elim, List.size_toArray, clipAt_nat, Int.toNat_natCast]
  congr 1
  by_cases ha : a ≤ l.length
  · rw [Nat.min_eq_left ha]
    by_cases hb : b ≤ l.length
    · rw [Nat.min_eq_left hb]
    · have hb' : l.length ≤ b := by omega
      rw [Nat.min_eq_right hb', List.take_of_length_le (by rw [List.length_drop]; omega), List.take_of_length_le (by rw [List.length_drop]; omega)]
  · have ha' : l.length ≤ a := by omega
    rw [Nat.min_eq_right ha', List.drop_eq_nil_of_le (by omega), List.drop_eq_nil_of_le (by omega)]
    simp

theorem slice_B {prog : Program} {w : World} {A : Around} {E : Value → Shared → Prop} {s : Shared} {value slice : PySem.Expr} {l : List UInt8} {t : Tok} {h₀ : Heap} {L : Addr} {m : PySem.Str → Option Value} {news : List (Addr × Obj)} {lo hi : Int} {tl th : Tok} {Q : Value → Shared → Prop}
    (hF : Fr h₀ L s.heap m) (hN : News h₀ L s.heap news) (h0 : 0 ≤ lo) (h1 : 0 ≤ hi) (hz : l.length ≤ 16777216)
    (h : ∀ h' t' k, Fr h₀ L h' m → News h₀ L h' news → Q (.bytes ((l.drop lo.toNat).take (hi.toNat - lo.toNat)).toArray t') { s with heap := h', toks := k })
    (hs : subscripted slice false (.bytes l.toArray t) (.ref s.heap.objs.size) = operate [.ref s.heap.objs.size, .bytes l.toArray t] (getItem (.bytes l.toArray t) (.ref s.heap.objs.size)) := by with_unfolding_all rfl)
    (ht : ∀ r, letTemporaryGo value (.bytes l.toArray t) r = pure () := by intro _; with_unfolding_all rfl) :
    wpAny (model prog w) A (subscriptTail value slice (.bytes l.toArray t) (.ref s.heap.objs.size)) Q E { s with heap := s.heap.push { cls := .type "slice", data := .fields #[.int lo tl, .int hi th, .none] } } := by
  refine KBc.slice_K (lo := some lo) (hi := some hi) hF hN (KBw.ints_list l) (by constructor) (by constructor) (by simpa using hz) (fun h' t' k F' N' _ => ?_) hs ht
  rw [picked_nn l h0 h1]
  exact h h' t' k F' N'

local macro_rules | `(tactic| walk_at "subscriptTail") => `(tactic| (k_here; (with_reducible show wpAny _ _ (subscriptTail _ (Expr.Slice _ _ none _) (Value.bytes (List.toArray _) _) (Value.ref _)) _ _ _); (with_reducible rename Fr _ _ _ _ => F'); (with_reducible rename News _ _ _ _ => N'); (refine slice_B (s := ⟨_, _, _, _, _⟩) F' N' (by omega) (by omega) (by omega) ?_); intro h' _ _ F' N'))

def lineR (rest : List UInt8) : Nat := if (rest.take 1 == [10]) = true then 1 else if (rest.take 2 == [13, 10]) = true then 2 else 0

theorem line_end_spec {w : World} {mean : ExcName → Option Value} {mg mb : Str → Option Value} {A : Around} {outer : List Env} {base : Heap} {s : Shared} {Q E : Value → Shared → Prop}
    (C : Cx w mean mg mb A outer base s.heap) (hd : A.depth + 1 < recursionLimit) {l : List UInt8} {i : Nat} (hl : l.length ≤ 100000) (t1 t2 : Tok)
    (ret : ∀ h' tk' t', KeepBut [] s.heap h' → Q (.int (if lineR (l.drop i) = 0 then -1 else ((i + lineR (l.drop i) : Nat) : Int)) t') { s with heap := h', toks := tk' }) :
    wpAny (model prg w) A (call (.ref 62) [.bytes l.toArray t1, .int i t2]) Q E s := by
  w_top off
  refine wpAny_call ?_
  refine' enterH C [] ?hS ?ho ?hcd ?hroom ?hb ?hl ?_ ?c2 ?c3 ?c4 ?c5
  case hS => intro q hq; cases hq
  case ho => k_is
  case hcd => k_is
  case hroom => omega
  case hb => exact BindsTo.of_eq rfl
  case hl => exact locs rfl
  case c2 => exact rfl
  case c3 => exact rfl
  case c4 => exact rfl
  case c5 => decide
  intro g' L' h' kb st hL F' N' Cg B' X' T'
  try dsimp only
  try k_fold
  have e1 : ((i : Int) + 1).toNat - (i : Int).toNat = 1 := by omega
  have e2 : ((i : Int) + 2).toNat - (i : Int).toNat = 2 := by omega
  k_steps
  · rename_i h2 _ _ F2 N2 a
    rw [e1, Int.toNat_natCast] at a
    rw [show lineR (l.drop i) = 1 from by unfold lineR; rw [if_pos a]] at ret
    exact ret h2 _ _ (keep_end kb F2)
  · rename_i h2 _ _ F2 N2 b h3 _ _ F3 N3 a
    rw [e1, Int.toNat_natCast] at b
    rw [e2, Int.toNat_natCast] at a
    rw [show lineR (l.drop i) = 2 from by unfold lineR; rw [if_neg (ne_true_of_eq_false b), if_pos a]] at ret
    exact ret h3 _ _ (keep_end kb F3)
  · rename_i h2 _ _ F2 N2 b h3 _ _ F3 N3 a
    rw [e1, Int.toNat_natCast] at b
    rw [e2, Int.toNat_natCast] at a
    rw [show lineR (l.drop i) = 0 from by unfold lineR; rw [if_neg (ne_true_of_eq_false b), if_neg (ne_true_of_eq_false a)]] at ret
    exact ret h3 _ _ (keep_end kb F3)
end Mine

end

section
set_option maxRecDepth 100000
set_option maxHeartbeats 8000000
open PySem PySem.W PyProof.Rows PySem.Calls
namespace Mine
local macro_rules | `(tactic| walk_at "my pad I2 0") => `(tactic| fail "none")
local macro_rules | `(tactic| walk_at "my pad I2 1") => `(tactic| fail "none")
open PySem.Challenge

theorem prime2 {w : World} {h : Heap} : (Mine.hd.heap_39 w.params).In h → rw_or0016_01.prog = rw_or0016_01.prog := by
  k_fill
  intro _; rfl

inductive Ins where
  | ok (o : List UInt8) (n : Nat)
  | op
  | bad
def never (c : UInt8) : Bool := c == 0 || c == 10 || c == 13
def insR (rest : List UInt8) : Ins :=
  if rest.length = 0 ∨ (rest.getD 0 0 = 92 ∧ rest.length = 1) then .op
  else if rest.getD 0 0 = 92 then (if never (rest.getD 1 0) = true then .bad else .ok ((rest.drop 1).take 1) 2)
  else if lineR rest ≠ 0 then .ok [] (lineR rest)
  else if never (rest.getD 0 0) = true then .bad
  else .ok (rest.take 1) 1

local macro_rules | `(tactic| walk_at "subscriptTail") => `(tactic| (k_here; (with_reducible show wpAny _ _ (subscriptTail _ (Expr.Slice _ _ none _) (Value.bytes (List.toArray _) _) (Value.ref _)) _ _ _); (with_reducible rename Fr _ _ _ _ => F'); (with_reducible rename News _ _ _ _ => N'); (refine slice_B (s := ⟨_, _, _, _, _⟩) F' N' (by omega) (by omega) (by omega) ?_); intro h' _ _ F' N'))
theorem deeper_handled {w : World} {mean : ExcName → Option Value} {mg mb : Str → Option Value} {A : Around} {outer : List Env} {base h : Heap} {env : Env} (C : Cx w mean mg mb A outer base h) : (A.deeper env).handled = none := C.handled

theorem tup55 {w : World} {h : Heap} (X : (Mine.hd.heap_39 w.params).In h) : IsTup h 55 #[.int 0 249, .int 10 250, .int 13 251] := ⟨_, X 55 _ (by k_is), rfl, _, rfl⟩

theorem in55 {w : World} {A : Around} {E : Value → Shared → Prop} {s : Shared} {x : Int} {u : Tok} {Q : Value → Shared → Prop} (X : (Mine.hd.heap_39 w.params).In s.heap)
    (h : Q (.bool (x == 0 || x == 10 || x == 13)) s) : wpAny (model prg w) A (compareOp .In (.int x u) (.ref 55)) Q E s := by
  refine in_tuple_ints (tup55 X) (.cons _ _ (.cons _ _ (.cons _ _ .nil))) ?_
  have e : ([0, 10, 13].any fun y => y == x) = (x == 0 || x == 10 || x == 13) := by
    simp only [List.any_cons, List.any_nil, Bool.or_false, Bool.or_assoc]
    rw [Bool.beq_comm (a := (0 : Int)), Bool.beq_comm (a := (10 : Int)), Bool.beq_comm (a := (13 : Int))]
  rw [e]
  exact h

theorem none_up {g h h₀ : Heap} {L b : Addr} {m : Str → Option Value} (kb : KeepBut [] h₀ g) (F : Fr g L h m) (hb : h.get? b = none) : h₀.get? b = none := by
  cases q : h₀.get? b with
  | none => rfl
  | some o => rw [F.keep _ _ (kb _ _ (fun z => nomatch z) q)] at hb; cases hb
theorem none_up2 {g h₀ : Heap} {b : Addr} (kb : KeepBut [] h₀ g) (hb : g.get? b = none) : h₀.get? b = none := by
  cases q : h₀.get? b with
  | none => rfl
  | some o => rw [kb _ _ (fun z => nomatch z) q] at hb; cases hb
theorem fr_on {g h h' : Heap} {L : Addr} {m : Str → Option Value} (F : Fr g L h m) (k : ∀ b o, h.get? b = some o → h'.get? b = some o) : Fr g L h' m := (back_keep F News.nil (fun b o _ e => k b o e)).1

local macro_rules | `(tactic| walk_at "compareOp In int ref") => `(tactic| (k_here; (with_reducible show wpAny _ _ (compareOp CmpOp.In _ (Value.ref 55)) _ _ _); (with_reducible rename Fr _ _ _ _ => F'); refine in55 (Frag.In.keeps (by assumption) (Fr.keep F')) ?_))

local macro_rules | `(tactic| walk_at "exec Raise") => `(tactic| (k_here; refine raise_fault (deeper_handled (by assumption)) ?_))
local macro_rules | `(tactic| walk_at "call ref") => `(tactic| (k_here; (with_reducible show wpAny _ _ (call (Value.ref 52) _) _ _ _); (with_reducible rename Fr _ _ _ _ => F'); refine fault_call (s := ⟨_, _, _, _, _⟩) (Cx.push (by assumption) F') (by (simp only [depth_deeper]; omega)) _ _ ?_; intro h' tk' e' d' t' mA' kk' he0' he' hne' hd0' hn' ha'; refine ⟨_, _, _, rfl, Frag.In.keeps (Frag.In.keeps (by assumption) (Fr.keep F')) kk', he', ?_⟩; refine leave_first (s' := ⟨h', _, _, _, _⟩) (by assumption) (by assumption) (by assumption) (fr_on F' kk') he' (none_up (by assumption) F' he0') (none_up (by assumption) F' hd0') hn' ha' ?_; (clear kk' he0' he' hne' hd0' hn' ha'); intro h'' fl''))
local macro_rules | `(tactic| walk_at "call ref") => `(tactic| (k_here; (with_reducible show wpAny _ _ (call (Value.ref 62) _) _ _ _); (with_reducible rename Fr _ _ _ _ => F'); (with_reducible rename News _ _ _ _ => N'); refine line_end_spec (s := ⟨_, _, _, _, _⟩) (Cx.push (by assumption) F') (by (simp only [depth_deeper]; omega)) (by assumption) _ _ ?_; intro h' tk' t' kk'; (obtain ⟨F', N'⟩ := back_keep F' N' kk')))

theorem byte_is {c : UInt8} {n : Nat} (hn : n < 256) : (c.toNat = n) ↔ c = n.toUInt8 := by
  constructor
  · intro h
    apply UInt8.toNat_inj.mp
    rw [h]
    show n = (UInt8.ofNat n).toNat
    rw [UInt8.toNat_ofNat']
    exact (Nat.mod_eq_of_lt hn).symm
  · rintro rfl
    show (UInt8.ofNat n).toNat = n
    rw [UInt8.toNat_ofNat']
    exact Nat.mod_eq_of_lt hn
theorem never_is (c : UInt8) : (((c.toNat : Int) == 0) || ((c.toNat : Int) == 10) || ((c.toNat : Int) == 13)) = never c := by
  unfold never
  have h (n : Nat) (hn : n < 256) : (((c.toNat : Int)) == (n : Int)) = (c == n.toUInt8) := by
    rw [Bool.eq_iff_iff, beq_iff_eq, beq_iff_eq, ← byte_is hn]
    omega
  have h0 := h 0 (by decide)
  have h10 := h 10 (by decide)
  have h13 := h 13 (by decide)
  exact congr (congrArg or (congr (congrArg or h0) h10)) h13

section
variable {l : List UInt8} {i : Nat}
theorem drop_getD (k : Nat) : (l.drop i).getD k 0 = l.getD (i + k) 0 := by
  simp [List.getD_eq_getElem?_getD, List.getElem?_drop]
theorem ins_op1 (h : l.length ≤ i) : insR (l.drop i) = .op := by
  unfold insR
  rw [if_pos (.inl (by rw [List.length_drop]; omega))]
theorem ins_op2 (h1 : (l.getD i 0).toNat = 92) (h2 : i + 1 = l.length) : insR (l.drop i) = .op := by
  unfold insR
  rw [if_pos (.inr ⟨by rw [drop_getD]; exact (byte_is (by decide)).mp h1, by rw [List.length_drop]; omega⟩)]
theorem not_op {P : Prop} (h : i < l.length) (h2 : P → i + 1 ≠ l.length) (hp : (l.drop i).getD 0 0 = 92 → P) : ¬ ((l.drop i).length = 0 ∨ ((l.drop i).getD 0 0 = 92 ∧ (l.drop i).length = 1)) := by
  rw [List.length_drop]
  rintro (q | ⟨q1, q2⟩)
  · omega
  · exact h2 (hp q1) (by omega)
theorem is92 (h1 : (l.getD i 0).toNat = 92) : (l.drop i).getD 0 0 = 92 := by rw [drop_getD]; exact (byte_is (by decide)).mp h1
theorem no92 (h1 : (l.getD i 0).toNat ≠ 92) : ¬ (l.drop i).getD 0 0 = 92 := by
  rw [drop_getD]
  intro q
  exact h1 ((byte_is (by decide)).mpr q)
theorem ins_esc (h : i < l.length) (h1 : (l.getD i 0).toNat = 92) (h2 : i + 1 ≠ l.length) : insR (l.drop i) = if never (l.getD (i + 1) 0) = true then .bad else .ok ((l.drop (i + 1)).take 1) 2 := by
  unfold insR
  rw [if_neg (not_op h (fun (_ : True) => h2) (fun _ => trivial)), if_pos (is92 h1), drop_getD, List.drop_drop]
theorem ins_line (h : i < l.length) (h1 : (l.getD i 0).toNat ≠ 92) (h3 : lineR (l.drop i) ≠ 0) : insR (l.drop i) = .ok [] (lineR (l.drop i)) := by
  unfold insR
  rw [if_neg (not_op h (P := False) (fun q => q.elim) (fun q => no92 h1 q)), if_neg (no92 h1), if_pos h3]
theorem ins_sign (h : i < l.length) (h1 : (l.getD i 0).toNat ≠ 92) (h3 : lineR (l.drop i) = 0) : insR (l.drop i) = if never (l.getD i 0) = true then .bad else .ok ((l.drop i).take 1) 1 := by
  unfold insR
  rw [if_neg (not_op h (P := False) (fun q => q.elim) (fun q => no92 h1 q)), if_neg (no92 h1), if_neg (fun q => q h3), drop_getD, Nat.add_zero]
end

theorem inside_spec {w : World} {mean : ExcName → Option Value} {mg mb : Str → Option Value} {A : Around} {outer : List Env} {base : Heap} {s : Shared} {Q E : Value → Shared → Prop}
    (C : Cx w mean mg mb A outer base s.heap) (hd : A.depth + 8 < recursionLimit) {l : List UInt8} {i begun : Nat} (hl : l.length ≤ 100000) (hi : i ≤ l.length) (t1 t2 t3 : Tok)
    (ok : ∀ o n h' tk' r t4 t5, insR (l.drop i) = .ok o n → KeepBut [] s.heap h' → s.heap.get? r = none → h'.get? r = some ({ cls := .type "tuple", data := .seq #[.bytes o.toArray t4, .int ((i + n : Nat) : Int) t5] } : Obj) → Q (.ref r) { s with heap := h', toks := tk' })
    (bad : ∀ k h' tk' e, (insR (l.drop i) = .op ∧ k = (begun : Int)) ∨ (insR (l.drop i) = .bad ∧ k = (i : Int)) → Flown outer s.heap h' e k → E (.ref e) { s with heap := h', toks := tk' }) :
    wpAny (model prg w) A (call (.ref 69) [.bytes l.toArray t1, .int i t2, .int begun t3]) Q E s := by
  w_top off
  refine wpAny_call ?_
  refine' enterH C [] ?hS ?ho ?hcd ?hroom ?hb ?hl ?_ ?c2 ?c3 ?c4 ?c5
  case hS => intro q hq; cases hq
  case ho => k_is
  case hcd => k_is
  case hroom => omega
  case hb => exact BindsTo.of_eq rfl
  case hl => exact locs rfl
  case c2 => exact rfl
  case c3 => exact rfl
  case c4 => exact rfl
  case c5 => decide
  intro g' L' h' kb st hL F' N' Cg B' X' T'
  try dsimp only
  try k_fold
  have e0 : ((i : Int)).toNat = i := by omega
  have e1 : ((i : Int) + 1).toNat = i + 1 := by omega
  have lt : ¬ ((l.toArray.size : Int) ≤ (i : Int)) → i < l.length := fun h => by rw [List.size_toArray] at h; omega
  have eq1 : (i : Int) + 1 = (l.toArray.size : Int) → i + 1 = l.length := fun h => by rw [List.size_toArray] at h; omega
  have ne1 : (i : Int) + 1 ≠ (l.toArray.size : Int) → i + 1 ≠ l.length := fun h => by rw [List.size_toArray] at h; omega
  have is : (((l.getD ((i : Int)).toNat 0).toNat : Nat) : Int) = 92 → (l.getD i 0).toNat = 92 := fun h => by rw [e0] at h; omega
  have no : (((l.getD ((i : Int)).toNat 0).toNat : Nat) : Int) ≠ 92 → (l.getD i 0).toNat ≠ 92 := fun h => by rw [e0] at h; omega
  have e2 : ((i : Int) + 2).toNat = i + 2 := by omega
  k_steps
  · have a1 : (l.toArray.size : Int) ≤ (i : Int) := by assumption
    exact bad _ _ _ _ (.inl ⟨ins_op1 (by rw [List.size_toArray] at a1; omega), rfl⟩) (by assumption)
  · exact bad _ _ _ _ (.inl ⟨ins_op2 (is (by assumption)) (eq1 (by assumption)), rfl⟩) (by assumption)
  · have a5 : ((((l.getD ((i : Int) + 1).toNat 0).toNat : Nat) : Int) == 0 || (((l.getD ((i : Int) + 1).toNat 0).toNat : Nat) : Int) == 10 || (((l.getD ((i : Int) + 1).toNat 0).toNat : Nat) : Int) == 13) = true := by assumption
    rw [e1, never_is] at a5
    exact bad _ _ _ _ (.inr ⟨by rw [ins_esc (lt (by assumption)) (is (by assumption)) (ne1 (by assumption)), if_pos a5], rfl⟩) (by assumption)
  · have a5 : ((((l.getD ((i : Int) + 1).toNat 0).toNat : Nat) : Int) == 0 || (((l.getD ((i : Int) + 1).toNat 0).toNat : Nat) : Int) == 10 || (((l.getD ((i : Int) + 1).toNat 0).toNat : Nat) : Int) == 13) = false := by assumption
    rw [e1, never_is] at a5
    refine ok _ 2 _ _ _ _ _ ?_ (keep_end kb (by assumption)) (none_up2 kb (News.fresh (by assumption) (by k_mem))) (News.get (by assumption) (by k_mem))
    rw [ins_esc (lt (by assumption)) (is (by assumption)) (ne1 (by assumption)), if_neg (ne_true_of_eq_false a5), e1, e2, show i + 2 - (i + 1) = 1 from by omega]
  · exact absurd (show (((l.getD ((i : Int)).toNat 0).toNat : Nat) : Int) = 92 by assumption) (by assumption)
  · exact absurd (show (((l.getD ((i : Int)).toNat 0).toNat : Nat) : Int) = 92 by assumption) (by assumption)
  · have a5 : 0 ≤ (if lineR (l.drop i) = 0 then (-1 : Int) else ((i + lineR (l.drop i) : Nat) : Int)) := by assumption
    by_cases q : lineR (l.drop i) = 0
    · rw [if_pos q] at a5
      exact absurd a5 (by decide)
    · rename News _ _ _ _ => N9
      have z := N9.get (.head _)
      rw [if_neg q] at z
      exact ok [] (lineR (l.drop i)) _ _ _ _ _ (ins_line (lt (by assumption)) (no (by assumption)) q) (keep_end kb (by assumption)) (none_up2 kb (News.fresh N9 (.head _))) z
  · have a5 : ¬ 0 ≤ (if lineR (l.drop i) = 0 then (-1 : Int) else ((i + lineR (l.drop i) : Nat) : Int)) := by assumption
    have a6 : ((((l.getD ((i : Int)).toNat 0).toNat : Nat) : Int) == 0 || (((l.getD ((i : Int)).toNat 0).toNat : Nat) : Int) == 10 || (((l.getD ((i : Int)).toNat 0).toNat : Nat) : Int) == 13) = true := by assumption
    rw [e0, never_is] at a6
    have q : lineR (l.drop i) = 0 := by
      by_cases q : lineR (l.drop i) = 0
      · exact q
      · rw [if_neg q] at a5
        exact absurd (Int.natCast_nonneg _) a5
    exact bad _ _ _ _ (.inr ⟨by rw [ins_sign (lt (by assumption)) (no (by assumption)) q, if_pos a6], rfl⟩) (by assumption)
  · have a5 : ¬ 0 ≤ (if lineR (l.drop i) = 0 then (-1 : Int) else ((i + lineR (l.drop i) : Nat) : Int)) := by assumption
    have a6 : ((((l.getD ((i : Int)).toNat 0).toNat : Nat) : Int) == 0 || (((l.getD ((i : Int)).toNat 0).toNat : Nat) : Int) == 10 || (((l.getD ((i : Int)).toNat 0).toNat : Nat) : Int) == 13) = false := by assumption
    rw [e0, never_is] at a6
    have q : lineR (l.drop i) = 0 := by
      by_cases q : lineR (l.drop i) = 0
      · exact q
      · rw [if_neg q] at a5
        exact absurd (Int.natCast_nonneg _) a5
    refine ok _ 1 _ _ _ _ _ ?_ (keep_end kb (by assumption)) (none_up2 kb (News.fresh (by assumption) (by k_mem))) (News.get (by assumption) (by k_mem))
    rw [ins_sign (lt (by assumption)) (no (by assumption)) q, if_neg (ne_true_of_eq_false a6), e0, e1, show i + 1 - i = 1 from by omega]
end Mine

end

section
set_option maxRecDepth 100000
set_option maxHeartbeats 8000000
open PySem PySem.W PyProof.Rows PySem.Calls
namespace Mine
open PySem.Challenge

def bytesVals (l : List (List UInt8 × Tok)) : List Value := l.map fun p => .bytes p.1.toArray p.2

theorem wpAny_forIn_range {β : Type} {M : Model} {A : Around} {E : Value → Shared → Prop} {Q : β → Shared → Prop} (n : Nat) (f : Nat → β → Sem (ForInStep β)) (I : Nat → β → Shared → Prop)
    (turn : ∀ i b s, i < n → I i b s → wpAny M A (f i b) (fun r s' => match r with | .yield b' => I (i + 1) b' s' | .done _ => False) E s)
    (fin : ∀ b s, I n b s → Q b s) {init : β} {s : Shared} (h0 : I 0 init s) : wpAny M A (forIn [0:n] init f) Q E s := by
  rw [Std.Legacy.Range.forIn_eq_forIn_range']
  have go : ∀ (k i : Nat) (b : β) (s : Shared), i + k = n → I i b s → wpAny M A (forIn (List.range' i k 1) b f) Q E s := by
    intro k
    induction k with
    | zero =>
      intro i b s e h
      rw [List.range'_zero, List.forIn_nil]
      have : i = n := by omega
      subst this
      exact wpAny_pure (fin b s h)
    | succ k ih =>
      intro i b s e h
      rw [List.range'_succ, List.forIn_cons]
      refine wpAny_bind (wpAny_mono (turn i b s (by omega) h) (fun r s' hr => ?_) fun _ _ x => x)
      cases r with
      | done b' => exact hr.elim
      | yield b' => exact ih (i + 1) b' s' (by omega) hr
  have : [0:n].size = n := by simp [Std.Legacy.Range.size]
  rw [this]
  exact go n 0 init s (by omega) h0

section
variable {M : Model} {A : Around} {E : Value → Shared → Prop} {s : Shared} {D : Addr}
theorem seq_items {items : Array Value} {Q : Option (Array Value) → Shared → Prop} (hl : s.heap.IsList D items) (h : Q (some items) s) : wpAny M A (seqItems? (.ref D)) Q E s := by
  obtain ⟨o, ho, hc, n, hd⟩ := hl
  unfold seqItems?
  refine wpAny_bind (wpAny_load ho ?_)
  rw [hd]
  exact wpAny_pure h

theorem letGo_any : ∀ (l keep : List Value) {Q : Unit → Shared → Prop}, Q () s → wpAny M A (letGo l keep) Q E s
  | [], _, _, h => wpAny_pure h
  | x :: r, keep, _, h => by
    unfold letGo
    exact wpAny_bind (wpAny_holding (wpAny_point (letGo_any r keep h)))

theorem joinLetGo_any : ∀ (vs keep : List Value) {Q : Unit → Shared → Prop}, Q () s → wpAny M A (Builtin.Bytes.joinLetGo (vs.map fun v => (v, none)) keep) Q E s
  | [], _, _, h => wpAny_pure h
  | v :: r, keep, _, h => by
    show wpAny M A (Builtin.Bytes.joinLetGo ((v, none) :: r.map fun v => (v, none)) keep) _ E s
    unfold Builtin.Bytes.joinLetGo
    exact wpAny_bind (letGo_any _ _ (joinLetGo_any r keep h))
end

theorem take_buffer {id : String} {b : Array UInt8} {t : Tok} : Builtin.Bytes.takeBufferQuiet? id (.bytes b t) 0 = pure (some (b, none)) := by
  have e : Builtin.Bytes.takeBuffer? id (.bytes b t) 0 = pure (some (b, none)) := by
    unfold Builtin.Bytes.takeBuffer?
    rw [KBy.special_eq KBy.look_buffer, KBy.own_buffer]
    show ((Builtin.Bytes.buffer? id (.bytes b t)) >>= fun r => pure (r.map (·, none)) : Sem (Option (Array UInt8 × Option Value))) = _
    rw [KBy.buffer_eq]
    rfl
  unfold Builtin.Bytes.takeBufferQuiet?
  rw [e]
  rfl

theorem joined_empty (ps : List (Array UInt8)) : Builtin.Bytes.joined #[] ps = (ps.flatMap (·.toList)).toArray := by
  have go : ∀ (ps : List (Array UInt8)) (k : Nat) (acc : List UInt8), ((ps.zipIdx k).foldl (fun (out : Array UInt8) (x : Array UInt8 × Nat) => (if x.2 > 0 then out ++ #[] else out) ++ x.1) acc.toArray) = (acc ++ ps.flatMap (·.toList)).toArray := by
    intro ps
    induction ps with
    | nil => intro k acc; simp
    | cons p r ih =>
      intro k acc
      rw [List.zipIdx_cons, List.foldl_cons]
      have e : (if k > 0 then acc.toArray ++ #[] else acc.toArray) ++ p = (acc ++ p.toList).toArray := by
        have : p = p.toList.toArray := (Array.toArray_toList).symm
        rw [this]
        split <;> simp
      show List.foldl _ ((if k > 0 then acc.toArray ++ #[] else acc.toArray) ++ p) _ = _
      rw [e, ih, List.flatMap_cons, List.append_assoc]
  exact go ps 0 []

theorem fold_sizes (ps : List (Array UInt8)) (n : Nat) : ps.toArray.foldl (fun (x : Nat) (y : Array UInt8) => x + y.size) n = n + (ps.flatMap (·.toList)).length := by
  rw [List.foldl_toArray']
  · induction ps generalizing n with
    | nil => simp
    | cons p r ih =>
      rw [List.foldl_cons, ih]
      have : p.toList.length = p.size := Array.length_toList
      rw [List.flatMap_cons, List.length_append, this]
      omega
  · rfl

theorem take_succ_map {α β : Type} (f : α → β) (l : List α) (i : Nat) (hi : i < l.length) : (l.take (i + 1)).map f = (l.take i).map f ++ [f l[i]] := by
  rw [List.take_add_one, List.getElem?_eq_getElem hi, Option.toList_some, List.map_append, List.map_cons, List.map_nil]

theorem bytes_noheap (l : List (List UInt8 × Tok)) : ((bytesVals l).map fun v => (v, (none : Option Value))).any (fun x => x.1.onHeap) = false := by
  induction l with
  | nil => rfl
  | cons p r ih =>
    show (Value.onHeap (.bytes p.1.toArray p.2) || _) = false
    rw [show Value.onHeap (.bytes p.1.toArray p.2) = false from rfl, Bool.false_or]
    exact ih

theorem join_entry {prog : Program} {w : World} {A : Around} {E : Value → Shared → Prop} {s : Shared} {D : Addr} {l : List (List UInt8 × Tok)} {t : Tok} {Q : PySem.Fin → Shared → Prop}
    (hl : s.heap.IsList D (bytesVals l).toArray) (hz : (l.flatMap (·.1)).length ≤ 16777216)
    (h : ∀ t' k, Q (.done (.ret (.bytes (l.flatMap (·.1)).toArray t'))) { s with toks := k }) :
    wpAny (model prog w) A (Builtin.«bytes.join» ⟨[.bytes #[] t, .ref D], []⟩) Q E s := by
  unfold Builtin.«bytes.join» Builtin.Bytes.joinM
  refine wpAny_bind (wpAny_pure ?_)
  dsimp only
  rw [if_pos (show (Builtin.Bytes.Kind.bytes == Builtin.Bytes.Kind.bytes) = true by decide)]
  unfold Builtin.Bytes.joinItems
  refine wpAny_bind (wpAny_bind (wpAny_typeOf hl.typeIs ?_))
  rw [if_pos (by decide)]
  refine wpAny_pure (wpAny_bind (seq_items hl ?_))
  dsimp only
  rw [if_pos (show (Builtin.Bytes.Kind.bytes == Builtin.Bytes.Kind.bytes) = true by decide)]
  have hsize : (bytesVals l).toArray.size = l.length := by rw [List.size_toArray]; exact List.length_map _
  match l, hl, hz, h, hsize with
  | [p], hl, hz, h, hsize =>
    show wpAny (model prog w) A (typeOf (.bytes p.1.toArray p.2) >>= _) Q E s
    refine wpAny_bind (wpAny_typeOf (typeIs_bytes _ _ _) ?_)
    rw [if_pos (by decide)]
    refine wpAny_bind (wpAny_rule (wpAny_pure ?_))
    have z := h p.2 s.toks
    simp only [List.flatMap_cons, List.flatMap_nil, List.append_nil] at z
    exact z
  | [], hl, hz, h, hsize =>
    show wpAny (model prog w) A (forIn [:(bytesVals []).toArray.size] ((#[] : Array (Array UInt8)), ([] : List (Value × Option Value))) _ >>= _) Q E s
    generalize ([] : List (List UInt8 × Tok)) = l at *
    refine wpAny_bind (wpAny_forIn_range (β := Array (Array UInt8) × List (Value × Option Value)) _ _ (fun i b s' => s' = s ∧ b.1 = ((l.take i).map (·.1.toArray)).toArray ∧ b.2 = (bytesVals (l.take i)).map fun v => (v, none)) ?_ ?_ ⟨rfl, rfl, rfl⟩)
    · rintro i ⟨ps, tk⟩ s' hi ⟨rfl, rfl, rfl⟩
      dsimp only
      refine wpAny_bind (seq_items hl ?_)
      dsimp only
      rw [bytes_noheap, Bool.or_false, if_neg (show ¬ (Builtin.Bytes.Kind.bytes == Builtin.Bytes.Kind.bytearray) = true by decide)]
      rw [hsize] at hi
      have hx : (bytesVals l).toArray.getD i Value.none = .bytes (l[i].1.toArray) l[i].2 := by
        have : i < (bytesVals l).toArray.size := by rw [hsize]; exact hi
        simp [Array.getD, bytesVals, hi]
      rw [hx, take_buffer]
      refine wpAny_bind (wpAny_holding (wpAny_pure ?_))
      dsimp only
      refine wpAny_bind (seq_items hl ?_)
      dsimp only
      rw [if_neg (by simp)]
      refine wpAny_pure ⟨rfl, ?_, ?_⟩
      · rw [take_succ_map _ l i hi, List.push_toArray]
      · unfold bytesVals
        rw [take_succ_map _ l i hi, List.map_append]
        rfl
    · rintro ⟨ps, tk⟩ s' ⟨rfl, h1, h2⟩
      rw [hsize, List.take_length] at h1 h2
      dsimp only at h1 h2
      subst h1 h2
      dsimp only
      refine wpAny_bind (wpAny_of_eq (a := (#[] : Array UInt8)) rfl ?_)
      have hflat : ((l.map (·.1.toArray)).flatMap (·.toList)) = l.flatMap (·.1) := by
        rw [List.flatMap_map]
      rw [if_neg (by
        rw [show (#[] : Array UInt8).size * ((l.map (·.1.toArray)).toArray.size - 1) = 0 from Nat.zero_mul _, fold_sizes, hflat, Nat.zero_add, KBy.tooLong_not hz]
        decide)]
      refine wpAny_bind ?_
      rw [joined_empty, hflat]
      refine wpAny_mkBytes ?_ (by rw [List.size_toArray, sizeLine_eq]; exact hz)
      refine wpAny_bind (wpAny_holding (wpAny_point (wpAny_bind (joinLetGo_any _ _ (wpAny_pure ?_)))))
      exact h _ _
  | p :: p' :: r, hl, hz, h, hsize =>
    show wpAny (model prog w) A (forIn [:(bytesVals (p :: p' :: r)).toArray.size] ((#[] : Array (Array UInt8)), ([] : List (Value × Option Value))) _ >>= _) Q E s
    generalize p :: p' :: r = l at *
    refine wpAny_bind (wpAny_forIn_range (β := Array (Array UInt8) × List (Value × Option Value)) _ _ (fun i b s' => s' = s ∧ b.1 = ((l.take i).map (·.1.toArray)).toArray ∧ b.2 = (bytesVals (l.take i)).map fun v => (v, none)) ?_ ?_ ⟨rfl, rfl, rfl⟩)
    · rintro i ⟨ps, tk⟩ s' hi ⟨rfl, rfl, rfl⟩
      dsimp only
      refine wpAny_bind (seq_items hl ?_)
      dsimp only
      rw [bytes_noheap, Bool.or_false, if_neg (show ¬ (Builtin.Bytes.Kind.bytes == Builtin.Bytes.Kind.bytearray) = true by decide)]
      rw [hsize] at hi
      have hx : (bytesVals l).toArray.getD i Value.none = .bytes (l[i].1.toArray) l[i].2 := by
        have : i < (bytesVals l).toArray.size := by rw [hsize]; exact hi
        simp [Array.getD, bytesVals, hi]
      rw [hx, take_buffer]
      refine wpAny_bind (wpAny_holding (wpAny_pure ?_))
      dsimp only
      refine wpAny_bind (seq_items hl ?_)
      dsimp only
      rw [if_neg (by simp)]
      refine wpAny_pure ⟨rfl, ?_, ?_⟩
      · rw [take_succ_map _ l i hi, List.push_toArray]
      · unfold bytesVals
        rw [take_succ_map _ l i hi, List.map_append]
        rfl
    · rintro ⟨ps, tk⟩ s' ⟨rfl, h1, h2⟩
      rw [hsize, List.take_length] at h1 h2
      dsimp only at h1 h2
      subst h1 h2
      dsimp only
      refine wpAny_bind (wpAny_of_eq (a := (#[] : Array UInt8)) rfl ?_)
      have hflat : ((l.map (·.1.toArray)).flatMap (·.toList)) = l.flatMap (·.1) := by
        rw [List.flatMap_map]
      rw [if_neg (by
        rw [show (#[] : Array UInt8).size * ((l.map (·.1.toArray)).toArray.size - 1) = 0 from Nat.zero_mul _, fold_sizes, hflat, Nat.zero_add, KBy.tooLong_not hz]
        decide)]
      refine wpAny_bind ?_
      rw [joined_empty, hflat]
      refine wpAny_mkBytes ?_ (by rw [List.size_toArray, sizeLine_eq]; exact hz)
      refine wpAny_bind (wpAny_holding (wpAny_point (wpAny_bind (joinLetGo_any _ _ (wpAny_pure ?_)))))
      exact h _ _

namespace BJ
theorem slot_join : Slot "bytes" "join" "bytes.join" :=
  .of (owner := "bytes") (n := "join") (by rw [typeLookup_type, builtinLookup_eq_fast]; kernel_rfl) (by decide +kernel) (by decide +kernel) (by decide +kernel)
    (by first | exact .inl (by decide +kernel) | exact .inr (by decide +kernel)) (by rw [isSubtype_type]; kernel_rfl)
theorem type_join : typeOf (.builtin "bytes.join") = pure (.type "method_descriptor") := by show builtinType _ = _; rw [builtinType_eq_fast]; kernel_rfl
theorem entry_join : entryFor table "bytes.join" = some Builtin.«bytes.join» := entryFor_of_tree (by kernel_rfl)
theorem args_join (a b : Value) : argsOk "bytes.join" ⟨[a, b], []⟩ := by
  unfold argsOk; kernel_rfl
end BJ

section
variable {prog : Program} {w : World} {A : Around} {E : Value → Shared → Prop} {s : Shared}
theorem join_call {D : Addr} {l : List (List UInt8 × Tok)} {t : Tok} {Q : Value → Shared → Prop}
    (hl : s.heap.IsList D (bytesVals l).toArray) (hz : (l.flatMap (·.1)).length ≤ 16777216)
    (h : ∀ t' k, Q (.bytes (l.flatMap (·.1)).toArray t') { s with toks := k }) :
    wpAny (model prog w) A (call (.builtin "bytes.join") [.bytes #[] t, .ref D]) Q E s :=
  wpAny_call (codeAny_call_builtin BJ.slot_join.plain BJ.entry_join (BJ.slot_join.check _ _ _ _ _ _ _ _ (typeIs_bytes _ _ _) (BJ.args_join _ _) (join_entry hl hz h)))

theorem join_method {M : Model} {b : Array UInt8} {t : Tok} {pl : Sem Bool} {Q : Value × List Value → Shared → Prop} (h : Q (.builtin "bytes.join", [.bytes b t]) s) : wpAny M A (getMethod (.bytes b t) "join" pl) Q E s :=
  KBd.method_of (.bytes b t) (typeIs_bytes _ _ _) BJ.slot_join BJ.type_join KBd.noRef h
end
end Mine

end

section
set_option maxRecDepth 100000
set_option maxHeartbeats 8000000
open PySem PySem.W PyProof.Rows PySem.Calls
namespace Mine
open PySem.Challenge

theorem primeC {w : World} {h : Heap} : (Mine.hd.heap_39 w.params).In h → rw_or0016_01.prog = rw_or0016_01.prog := by
  k_fill
  intro _; rfl

/-- a wall at which the walk stands still -/
def Stop (P : Prop) : Prop := P
theorem execs_append (env : Env) (b : List Stmt) : ∀ a : List Stmt, execs (a ++ b) env = (execs a env >>= fun f => match f with | .next => execs b env | f => pure f)
  | [] => rfl
  | st :: r => by
    rw [List.cons_append, execs_cons, execs_cons, bind_assoc]
    congr 1
    funext f
    cases f with
    | next => exact execs_append env b r
    | brk => rfl
    | cont => rfl
    | ret v => rfl
theorem execs_at {M : Model} {A : Around} {E : Value → Shared → Prop} {s : Shared} {env : Env} {Q : Flow → Shared → Prop} (n : Nat) {l : List Stmt}
    (h : wpAny M A (execs (l.take n) env) (fun f s' => match f with | .next => Stop (wpAny M A (execs (l.drop n) env) Q E s') | f => Q f s') E s) : wpAny M A (execs l env) Q E s := by
  rw [← List.take_append_drop n l, execs_append]
  refine wpAny_bind (wpAny_mono h (fun f s' hf => ?_) fun _ _ x => x)
  cases f with
  | next => exact hf
  | brk => exact wpAny_pure hf
  | cont => exact wpAny_pure hf
  | ret v => exact wpAny_pure hf

/-- the scan of a comment's inside: fuel, depth, place, what has been read -/
def scan (l : List UInt8) (begun : Nat) : Nat → Nat → Nat → List (List UInt8) → Option (Except Nat (List (List UInt8) × Nat))
  | 0, _, _, _ => none
  | _ + 1, 0, i, acc => some (.ok (acc, i))
  | f + 1, d + 1, i, acc =>
    if ((l.drop i).take 1 == [40]) = true ∧ 20 < d + 2 then some (.error i)
    else match insR (l.drop i) with
      | .op => some (.error begun)
      | .bad => some (.error i)
      | .ok o n => scan l begun f (if ((l.drop i).take 1 == [40]) = true then d + 2 else if ((l.drop i).take 1 == [41]) = true then d else d + 1) (i + n) (acc ++ [o])

theorem lineR_le (r : List UInt8) : lineR r ≤ r.length ∧ lineR r ≤ 2 := by
  unfold lineR
  split
  · rename_i h
    have := congrArg List.length (eq_of_beq h)
    rw [List.length_take] at this
    simp only [List.length_cons, List.length_nil] at this
    omega
  · split
    · rename_i h
      have := congrArg List.length (eq_of_beq h)
      rw [List.length_take] at this
      simp only [List.length_cons, List.length_nil] at this
      omega
    · omega
theorem ins_len {r o : List UInt8} {n : Nat} (h : insR r = .ok o n) : 1 ≤ n ∧ n ≤ r.length ∧ o.length ≤ n := by
  unfold insR at h
  split at h
  · cases h
  rename_i h0
  have hr : 1 ≤ r.length := by
    refine Nat.pos_of_ne_zero fun q => h0 (.inl q)
  split at h
  · rename_i h1
    have h2 : r.length ≠ 1 := fun q => h0 (.inr ⟨h1, q⟩)
    split at h
    · cases h
    · cases h
      refine ⟨by decide, by omega, ?_⟩
      rw [List.length_take]
      omega
  · split at h
    · rename_i h3
      cases h
      exact ⟨Nat.pos_of_ne_zero h3, (lineR_le r).1, Nat.zero_le _⟩
    · split at h
      · cases h
      · cases h
        exact ⟨Nat.le_refl _, hr, by rw [List.length_take]; omega⟩

theorem pick_init (l : List (List UInt8 × Tok)) : kms_pick (bytesVals l).toArray.toList none (some (-1)) = bytesVals l.dropLast := by
  unfold kms_pick
  rw [List.toList_toArray]
  have h1 : kms_lo none (bytesVals l).length = 0 := rfl
  have h2 : kms_hi (some (-1)) (bytesVals l).length = l.length - 1 := by
    show (bytesVals l).length - 1 = _
    unfold bytesVals
    rw [List.length_map]
  rw [h1, h2, List.drop_zero, Nat.sub_zero]
  unfold bytesVals
  rw [← List.map_take, List.dropLast_eq_take]

def NeAll (r : Nat) : List (Addr × Obj) → Prop
  | [] => True
  | p :: l => @Ne Nat p.1 r ∧ NeAll r l
theorem neAll_of {r : Addr} : ∀ {l : List (Addr × Obj)}, (∀ p ∈ l, p.1 ≠ r) → NeAll r l
  | [], _ => trivial
  | _ :: _, h => ⟨h _ (.head _), neAll_of fun q hq => h q (.tail _ hq)⟩

theorem back_new {g h h' : Heap} {L r : Addr} {o : Obj} {m : Str → Option Value} {news : List (Addr × Obj)} (F : Fr g L h m) (N : News g L h news) (k : KeepBut [] h h') (h0 : h.get? r = none) (hr : h'.get? r = some o) :
    Fr g L h' m ∧ News g L h' ((r, o) :: news) ∧ NeAll r news := by
  obtain ⟨F', N'⟩ := back_keep F N k
  refine ⟨F', fun q hq => ?_, neAll_of fun q hq e => ?_⟩
  · rcases List.mem_cons.mp hq with rfl | hq
    · exact ⟨hr, fresh_at F h0⟩
    · exact N' q hq
  · have := (N q hq).1
    rw [e, h0] at this
    cases this

theorem append_B {w : World} {A : Around} {E : Value → Shared → Prop} {s : Shared} {h₀ : Heap} {L D : Addr} {m : Str → Option Value} {news news' : List (Addr × Obj)} {l : List (List UInt8 × Tok)} {n : Nat} {o : List UInt8} {t : Tok} {Q : Value → Shared → Prop}
    (F : Fr h₀ L s.heap m) (N : News h₀ L s.heap news) (U : Upd D (listOf (bytesVals l).toArray n) (listOf (bytesVals (l ++ [(o, t)])).toArray (n + 1)) news news') (hz : l.length ≤ 1000000)
    (h : ∀ h', Fr h₀ L h' m → News h₀ L h' news' → Q .none { s with heap := h' }) : wpAny (model prg w) A (call (.builtin "list.append") [.ref D, .bytes o.toArray t]) Q E s := by
  have e : (bytesVals (l ++ [(o, t)])).toArray = (bytesVals l).toArray.push (.bytes o.toArray t) := by
    rw [List.push_toArray]
    unfold bytesVals
    rw [List.map_append]
    rfl
  rw [e] at U
  refine append_K F N U h ?_
  rw [List.size_toArray, sizeLine_eq]
  unfold bytesVals
  rw [List.length_map]
  omega

theorem map5 {m : Str → Option Value} {a b c d e : Str} {va vb vc vd ve : Option Value} (ha : m a = va) (hb : m b = vb) (hc : m c = vc) (hd : m d = vd) (he : m e = ve) :
    m = fun y => if y = a then va else if y = b then vb else if y = c then vc else if y = d then vd else if y = e then ve else m y := by
  funext y
  by_cases h1 : y = a
  · rw [if_pos h1, h1, ha]
  by_cases h2 : y = b
  · rw [if_neg h1, if_pos h2, h2, hb]
  by_cases h3 : y = c
  · rw [if_neg h1, if_neg h2, if_pos h3, h3, hc]
  by_cases h4 : y = d
  · rw [if_neg h1, if_neg h2, if_neg h3, if_pos h4, h4, hd]
  by_cases h5 : y = e
  · rw [if_neg h1, if_neg h2, if_neg h3, if_neg h4, if_pos h5, h5, he]
  rw [if_neg h1, if_neg h2, if_neg h3, if_neg h4, if_neg h5]

/-- what stands between two turns of comment_at's loop -/
def CJ (l : List UInt8) (begun : Nat) (t1 t2 : Tok) (p : Addr) (res : Except Nat (List (List UInt8) × Nat)) (n : Nat) (m : Str → Option Value) (news : List (Addr × Obj)) : Prop :=
  ∃ (d i : Nat) (D I : Int) (acc : List (List UInt8 × Tok)) (c : Nat) (td ti : Tok), m (Str.ofString "data") = some (.bytes l.toArray t1) ∧ m (Str.ofString "begun") = some (.int begun t2) ∧ m (Str.ofString "parts") = some (.ref p) ∧
    m (Str.ofString "depth") = some (.int D td) ∧ m (Str.ofString "at") = some (.int I ti) ∧ D = d ∧ I = i ∧ news = [(p, listOf (bytesVals acc).toArray c)] ∧ i ≤ l.length ∧ acc.length ≤ i ∧ (acc.flatMap (·.1)).length ≤ i ∧
    scan l begun n d i (acc.map (·.1)) = some res

theorem sgn (l : List UInt8) (i : Nat) (b : UInt8) : ((List.take (((i : Int) + 1).toNat - ((i : Int)).toNat) (List.drop ((i : Int)).toNat l)).toArray.toList == #[b].toList) = ((l.drop i).take 1 == [b]) := by
  rw [show ((i : Int)).toNat = i from by omega, show ((i : Int) + 1).toNat = i + 1 from by omega, show i + 1 - i = 1 from by omega, List.toList_toArray]

theorem flat_init : ∀ l : List (List UInt8 × Tok), l.dropLast.flatMap (·.1) = (l.map (·.1)).dropLast.flatten ∧ (l.dropLast.flatMap (·.1)).length ≤ (l.flatMap (·.1)).length
  | [] => ⟨rfl, Nat.le_refl _⟩
  | [a] => ⟨rfl, Nat.zero_le _⟩
  | a :: b :: r => by
    obtain ⟨h1, h2⟩ := flat_init (b :: r)
    refine ⟨?_, ?_⟩
    · rw [List.dropLast_cons_cons, List.flatMap_cons, h1]
      rfl
    · rw [List.dropLast_cons_cons, List.flatMap_cons, List.flatMap_cons (x := a), List.length_append, List.length_append]
      omega
theorem flat_snoc (l : List (List UInt8 × Tok)) (o : List UInt8) (t : Tok) : ((l ++ [(o, t)]).flatMap (·.1)).length = (l.flatMap (·.1)).length + o.length := by
  rw [List.flatMap_append, List.length_append]
  simp
end Mine

end

section
set_option maxRecDepth 100000
set_option maxHeartbeats 8000000
open PySem PySem.W PyProof.Rows PySem.Calls
namespace Mine
local macro_rules | `(tactic| walk_at "my pad C2 0") => `(tactic| fail "none")
local macro_rules | `(tactic| walk_at "my pad C2 1") => `(tactic| fail "none")
local macro_rules | `(tactic| walk_at "my pad C2 2") => `(tactic| fail "none")
local macro_rules | `(tactic| walk_at "my pad C2 3") => `(tactic| fail "none")
local macro_rules | `(tactic| walk_at "my pad C2 4") => `(tactic| fail "none")
local macro_rules | `(tactic| walk_at "my pad C2 5") => `(tactic| fail "none")
local macro_rules | `(tactic| walk_at "my pad C2 6") => `(tactic| fail "none")
local macro_rules | `(tactic| walk_at "my pad C2 7") => `(tactic| fail "none")
open PySem.Challenge

theorem primeC2 {w : World} {h : Heap} : (Mine.hd.heap_39 w.params).In h → rw_or0016_01.prog = rw_or0016_01.prog := by
  k_fill
  intro _; rfl

local macro_rules | `(tactic| walk_at "subscriptTail") => `(tactic| (k_here; (with_reducible show wpAny _ _ (subscriptTail _ (Expr.Slice _ _ none _) (Value.bytes (List.toArray _) _) (Value.ref _)) _ _ _); (with_reducible rename Fr _ _ _ _ => F'); (with_reducible rename News _ _ _ _ => N'); (refine slice_B (s := ⟨_, _, _, _, _⟩) F' N' (by omega) (by omega) (by omega) ?_); intro h' _ _ F' N'))
local macro_rules | `(tactic| walk_at "exec Raise") => `(tactic| (k_here; refine raise_fault (deeper_handled (by assumption)) ?_))
local macro_rules | `(tactic| walk_at "call ref") => `(tactic| (k_here; (with_reducible show wpAny _ _ (call (Value.ref 52) _) _ _ _); (with_reducible rename Fr _ _ _ _ => F'); refine fault_call (s := ⟨_, _, _, _, _⟩) (Cx.push (by assumption) F') (by (simp only [depth_deeper]; omega)) _ _ ?_; intro h' tk' e' d' t' mA' kk' he0' he' hne' hd0' hn' ha'; refine ⟨_, _, _, rfl, Frag.In.keeps (Frag.In.keeps (by assumption) (Fr.keep F')) kk', he', ?_⟩; refine leave_first (s' := ⟨h', _, _, _, _⟩) (by assumption) (by assumption) (by assumption) (fr_on F' kk') he' (none_up (by assumption) F' he0') (none_up (by assumption) F' hd0') hn' ha' ?_; (clear kk' he0' he' hne' hd0' hn' ha'); intro h'' fl''))
local macro_rules | `(tactic| walk_at "call ref") => `(tactic| (k_here; (with_reducible show wpAny _ _ (call (Value.ref 69) _) _ _ _); (with_reducible rename Fr _ _ _ _ => F'); (with_reducible rename News _ _ _ _ => N'); refine inside_spec (s := ⟨_, _, _, _, _⟩) (Cx.push (by assumption) F') (by (simp only [depth_deeper]; omega)) (by assumption) (by assumption) _ _ _ ?_ ?_; (all_goals first | (intro o' n' h' tk' r' t4' t5' hins' kk' hr0' hr'; (obtain ⟨F', N', hne'⟩ := back_new F' N' kk' hr0' hr'); (simp only [NeAll, and_true] at hne')) | (intro k' h' tk' e' hk' fl'; refine leave_next (s' := ⟨h', _, _, _, _⟩) (by assumption) (by assumption) (by assumption) F' fl' ?_; intro h'' fl''))))
local macro_rules | `(tactic| walk_at "call builtin:list.append") => `(tactic| (k_here; (with_reducible show wpAny _ _ (call (Value.builtin _) [Value.ref _, Value.bytes _ _]) _ _ _); k_dflt (refine' append_B ?k1 ?k2 ?k3 ?z ?_; (case k1 => k_asm); (case k2 => k_asm); (case k3 => k_upd); (case z => omega)); intro h' F' N'))
local macro_rules | `(tactic| walk_at "getMethod bytes") => `(tactic| (k_here; (refine join_method ?_)))
local macro_rules | `(tactic| walk_at "call builtin:bytes.join") => `(tactic| (k_here; (refine join_call (News.isList (by assumption) (by k_mem)) (by assumption) ?_); intro _ _))
local macro_rules | `(tactic| walk_at "subscriptTail Name Slice ref ref") => `(tactic| (k_here; (with_reducible show wpAny _ _ (subscriptTail _ (PySem.Expr.Slice none _ none _) (Value.ref _) (Value.ref _)) _ _ _); k_dflt (refine' kms_slice_lit ?F ?N ?l ?p ?q ?e ?_ ?s ?t ?z; (case F => k_asm); (case N => k_asm); (case l => kmk_list); (case p => kmk_part); (case q => kmk_part); (case e => exact pick_init _); (case s => with_unfolding_all rfl); (case t => kmk_pure); (case z => (rw [List.size_toArray, sizeLine_eq]; unfold bytesVals; rw [List.length_map]; omega))); intro D' h' F' N' l1; (try k_lt l1); (try k_sweep)))

local macro_rules | `(tactic| walk_at "assign Tuple") => `(tactic| (k_here; (with_reducible show wpAny _ _ (assign (Expr.Tuple _ _ _) _ (Value.ref _)) _ _ _); (with_reducible rename Fr _ _ _ _ => F'); (with_reducible rename News _ _ _ _ => N'); refine unpackN_ F' N' (News.isTup N' (by k_mem)) (deeper_handled (by assumption)) rfl rfl ?_; clear F' N'; intro h' F' N'))

theorem comment_spec {w : World} {mean : ExcName → Option Value} {mg mb : Str → Option Value} {A : Around} {outer : List Env} {base : Heap} {s : Shared} {Q E : Value → Shared → Prop}
    (C : Cx w mean mg mb A outer base s.heap) (hd : A.depth + 12 < recursionLimit) {l : List UInt8} {begun f : Nat} {res : Except Nat (List (List UInt8) × Nat)} (hl : l.length ≤ 100000) (hb : begun + 1 ≤ l.length) (t1 t2 : Tok)
    (hs : scan l begun f 1 (begun + 1) [] = some res)
    (ok : ∀ acc i h' tk' r t4 t5, res = .ok (acc, i) → KeepBut [] s.heap h' → s.heap.get? r = none → h'.get? r = some ({ cls := .type "tuple", data := .seq #[.bytes (acc.dropLast.flatten).toArray t4, .int ((i : Nat) : Int) t5] } : Obj) → Q (.ref r) { s with heap := h', toks := tk' })
    (bad : ∀ (k : Nat) h' tk' e, res = .error k → Flown outer s.heap h' e k → E (.ref e) { s with heap := h', toks := tk' }) :
    wpAny (model prg w) A (call (.ref 76) [.bytes l.toArray t1, .int begun t2]) Q E s := by
  w_top off
  refine wpAny_call ?_
  refine' enterH C [] ?hS ?ho ?hcd ?hroom ?hb ?hl ?_ ?c2 ?c3 ?c4 ?c5
  case hS => intro q hq; cases hq
  case ho => k_is
  case hcd => k_is
  case hroom => omega
  case hb => exact BindsTo.of_eq rfl
  case hl => exact locs rfl
  case c2 => exact rfl
  case c3 => exact rfl
  case c4 => exact rfl
  case c5 => decide
  intro g' L' h' kb st hL F' N' Cg B' X' T'
  try dsimp only
  refine execs_at 3 ?_
  dsimp only [List.take, List.drop]
  try k_fold
  k_steps
  rename_i p _ _ _ _ _ F1 N1
  unfold Stop
  refine wpAny_execs_cons (While_inv (n₀ := f) (CJ l begun t1 t2 p res) F1 N1 ⟨1, begun + 1, 1, begun + 1, [], 0, _, _, rfl, rfl, rfl, rfl, rfl, rfl, rfl, rfl, hb, Nat.zero_le _, Nat.zero_le _, hs⟩ ?_)
  clear F1 N1
  rintro n m₁ news₁ h₁ tk₁ F₁ N₁ ⟨d, i, _, _, acc, c, td, ti, e1, e2, e3, e4, e5, rfl, rfl, rfl, hi, hacc, hflat, hsc⟩
  rw [map5 e1 e2 e3 e4 e5] at F₁
  clear e1 e2 e3 e4 e5
  cases n with
  | zero => cases hsc
  | succ n =>
    cases d with
    | zero =>
      cases hsc
      have hz : (acc.dropLast.flatMap (·.1)).length ≤ 16777216 := by have := (flat_init acc).2; omega
      k_steps
      rename News _ _ _ _ => N9
      have z := N9.get (.head _)
      rw [(flat_init acc).1] at z
      exact ok _ i _ _ _ _ _ rfl (keep_end kb (by assumption)) (none_up2 kb (News.fresh N9 (.head _))) z
    | succ d =>
      have lt (o : List UInt8) (k : Nat) (q : insR (l.drop i) = .ok o k) : 1 ≤ k ∧ i + k ≤ l.length ∧ o.length ≤ k := by
        obtain ⟨a, b, c⟩ := ins_len q
        rw [List.length_drop] at b
        omega
      k_steps
      · have a : ((List.take (((i : Int) + 1).toNat - ((i : Int)).toNat) (List.drop ((i : Int)).toNat l)).toArray.toList == #[40].toList) = true := by assumption
        have b : 20 < (((d + 1 : Nat) : Int)) + 1 := by assumption
        rw [sgn] at a
        rw [scan, if_pos ⟨a, by omega⟩] at hsc
        cases hsc
        exact bad _ _ _ _ rfl (by assumption)
      · have a : ((List.take (((i : Int) + 1).toNat - ((i : Int)).toNat) (List.drop ((i : Int)).toNat l)).toArray.toList == #[40].toList) = true := by assumption
        have b : ¬ 20 < (((d + 1 : Nat) : Int)) + 1 := by assumption
        rw [sgn] at a
        rename insR (l.drop i) = _ => q
        obtain ⟨l1, l2, l3⟩ := lt _ _ q
        rw [scan, if_neg (fun z => b (by omega)), q, if_pos a] at hsc
        rename Fr _ _ _ _ => F9
        rename News _ _ _ _ => N9
        exact WhileStep.intro F9 (fun q hq => N9 q (.tail _ hq)) (Nat.lt_succ_self n) ⟨d + 2, _, _, _, acc ++ [_], _, _, _, rfl, rfl, rfl, rfl, rfl, rfl, rfl, rfl, l2, by simp only [List.length_append, List.length_cons, List.length_nil]; omega, by rw [flat_snoc]; omega, by rw [List.map_append]; exact hsc⟩
      · have a : ((List.take (((i : Int) + 1).toNat - ((i : Int)).toNat) (List.drop ((i : Int)).toNat l)).toArray.toList == #[40].toList) = true := by assumption
        have b : ¬ 20 < (((d + 1 : Nat) : Int)) + 1 := by assumption
        rename _ ∨ _ => q
        rw [scan, if_neg (fun z => b (by omega))] at hsc
        rcases q with ⟨q, rfl⟩ | ⟨q, rfl⟩ <;> (rw [q] at hsc; cases hsc; exact bad _ _ _ _ rfl (by assumption))
      · have a : ((List.take (((i : Int) + 1).toNat - ((i : Int)).toNat) (List.drop ((i : Int)).toNat l)).toArray.toList == #[40].toList) = false := by assumption
        have b : ((List.take (((i : Int) + 1).toNat - ((i : Int)).toNat) (List.drop ((i : Int)).toNat l)).toArray.toList == #[41].toList) = true := by assumption
        rw [sgn] at a b
        rename insR (l.drop i) = _ => q
        obtain ⟨l1, l2, l3⟩ := lt _ _ q
        rw [scan, if_neg (fun z => ne_true_of_eq_false a z.1), q, if_neg (ne_true_of_eq_false a), if_pos b] at hsc
        rename Fr _ _ _ _ => F9
        rename News _ _ _ _ => N9
        exact WhileStep.intro F9 (fun q hq => N9 q (.tail _ hq)) (Nat.lt_succ_self n) ⟨d, _, _, _, acc ++ [_], _, _, _, rfl, rfl, rfl, rfl, rfl, by omega, rfl, rfl, l2, by simp only [List.length_append, List.length_cons, List.length_nil]; omega, by rw [flat_snoc]; omega, by rw [List.map_append]; exact hsc⟩
      · have a : ((List.take (((i : Int) + 1).toNat - ((i : Int)).toNat) (List.drop ((i : Int)).toNat l)).toArray.toList == #[40].toList) = false := by assumption
        rw [sgn] at a
        rename _ ∨ _ => q
        rw [scan, if_neg (fun z => ne_true_of_eq_false a z.1)] at hsc
        rcases q with ⟨q, rfl⟩ | ⟨q, rfl⟩ <;> (rw [q] at hsc; cases hsc; exact bad _ _ _ _ rfl (by assumption))
      · have a : ((List.take (((i : Int) + 1).toNat - ((i : Int)).toNat) (List.drop ((i : Int)).toNat l)).toArray.toList == #[40].toList) = false := by assumption
        have b : ((List.take (((i : Int) + 1).toNat - ((i : Int)).toNat) (List.drop ((i : Int)).toNat l)).toArray.toList == #[41].toList) = false := by assumption
        rw [sgn] at a b
        rename insR (l.drop i) = _ => q
        obtain ⟨l1, l2, l3⟩ := lt _ _ q
        rw [scan, if_neg (fun z => ne_true_of_eq_false a z.1), q, if_neg (ne_true_of_eq_false a), if_neg (ne_true_of_eq_false b)] at hsc
        rename Fr _ _ _ _ => F9
        rename News _ _ _ _ => N9
        exact WhileStep.intro F9 (fun q hq => N9 q (.tail _ hq)) (Nat.lt_succ_self n) ⟨d + 1, _, _, _, acc ++ [_], _, _, _, rfl, rfl, rfl, rfl, rfl, rfl, rfl, rfl, l2, by simp only [List.length_append, List.length_cons, List.length_nil]; omega, by rw [flat_snoc]; omega, by rw [List.map_append]; exact hsc⟩
      · have a : ((List.take (((i : Int) + 1).toNat - ((i : Int)).toNat) (List.drop ((i : Int)).toNat l)).toArray.toList == #[40].toList) = false := by assumption
        rw [sgn] at a
        rename _ ∨ _ => q
        rw [scan, if_neg (fun z => ne_true_of_eq_false a z.1)] at hsc
        rcases q with ⟨q, rfl⟩ | ⟨q, rfl⟩ <;> (rw [q] at hsc; cases hsc; exact bad _ _ _ _ rfl (by assumption))
end Mine

end

section
set_option maxRecDepth 100000
set_option maxHeartbeats 8000000
open PySem PySem.W PyProof.Rows PySem.Calls
namespace Mine
open PySem.Challenge

theorem primeE0 {w : World} {h : Heap} : (Mine.hd.heap_39 w.params).In h → rw_or0016_01.prog = rw_or0016_01.prog := by
  k_fill
  intro _; rfl

theorem gaSlot : Slot "Exception" "__getattribute__" "BaseException.__getattribute__" :=
  .of (owner := "BaseException") (n := "__getattribute__") (by rw [typeLookup_type, builtinLookup_eq_fast]; kernel_rfl) (by decide +kernel) (by decide +kernel) (by decide +kernel)
    (by first | exact .inl (by decide +kernel) | exact .inr (by decide +kernel)) (by rw [isSubtype_type]; kernel_rfl)

section
variable {prog : Program} {w : World} {A : Around} {E : Value → Shared → Prop} {h : Heap} {g : Array GenState} {d : Drawn} {t : Nat} {os : OsState} {e : Addr} {oe : Obj}

theorem fault_check_ga {M : Model} {nameV : Value} {Q : Unit → Shared → Prop} (X : (Mine.hd.heap_39 w.params).In h) (hx : h.get? e = some oe) (hc : oe.cls = .ref 52) (hq : Q () ⟨h, g, d, t, os⟩) :
    wpAny M A (checkBuiltinCall "BaseException.__getattribute__" ⟨[.ref e, nameV], []⟩) Q E ⟨h, g, d, t, os⟩ := by
  obtain ⟨nm, q, N, bs, sn, sub, ab, col, dd, k0, k1, k2, k3, k5, hC⟩ := cls52 X
  have hk : builtinKind "BaseException.__getattribute__" = some .slot := by decide +kernel
  have hsplit : splitId "BaseException.__getattribute__" = some ("BaseException", "__getattribute__") := by decide +kernel
  have hcB : (Value.ref 52 :: faultMro).contains (.type "BaseException") = true := by decide +kernel
  have ha := F.args_bexc_ga (.ref e) nameV
  simp only [checkBuiltinCall, hk, hsplit]
  refine wpAny_bind ?_
  · unfold isInstance
    repeat (first | (with_reducible refine wpAny_loadPart_at hx ?_; rw [hc]) | (with_reducible refine wpAny_isSubtype_exc hC ?_; rw [hcB]) | wp_step)
    exact hq

theorem fault_ga {tk : Tok} {v : Value} {od : Option Obj} {name : Str} {R : Result → Shared → Prop} (X : (Mine.hd.heap_39 w.params).In h) (I : PySem.W.InstAt h e oe 52 od)
    (hf : findObj (Mine.hd.heap_39 w.params) 52 od name = some (.value v)) (hq : R (.ok (.ret v)) ⟨h, g, d, t, os⟩) :
    codeAny (model prog w) A (.call (.builtin "BaseException.__getattribute__") ⟨[.ref e, .str name tk], []⟩) R ⟨h, g, d, t, os⟩ := by
  refine codeAny_call_builtin gaSlot.plain F.entry_bexc_ga (fault_check_ga X I.at_ I.cls ?_)
  have L0 := I.type (M := model prog w)
  have L1 := looks_find (M := model prog w) X I hf
  unfold Builtin.«object.__getattribute__»
  refine wpAny_bind (wpAny_pure (wpAny_bind (wpAny_pure ?_)))
  refine wpAny_bind (L0.at (wpAny_bind (L1.at ?_)))
  exact wpAny_pure hq

theorem fault_attr {expr : Bool} {Q : Value → Shared → Prop} {v : Value} {od : Option Obj} {name : Str} (X : (Mine.hd.heap_39 w.params).In h) (I : PySem.W.InstAt h e oe 52 od)
    (hf : findObj (Mine.hd.heap_39 w.params) 52 od name = some (.value v)) (hh : handedIn v = true) (hq : Q v ⟨h, g, d, t + 1, os⟩) : wpAny (model prog w) A (getAttr (.ref e) name expr) Q E ⟨h, g, d, t, os⟩ := by
  have L0 := I.type (M := model prog w)
  have L1 := looks_findIn (M := model prog w) X (show findIn (Mine.hd.heap_39 w.params) (.ref 52) "__getattribute__" = some (some (.builtin "BaseException.__getattribute__")) by k_is)
  have L2 := looks_findIn (M := model prog w) X (show findIn (Mine.hd.heap_39 w.params) (.ref 52) "__getattr__" = some none by k_is)
  have hx2 : (Value.builtin "BaseException.__getattribute__" == Value.builtin "object.__getattribute__") = false := by decide +kernel
  have hx1 : (onTheHeap (Value.ref 52) && Value.builtin "BaseException.__getattribute__" == Value.builtin "object.__getattribute__") = false := by rw [hx2]; rfl
  have hx0 : (expr && onTheHeap (Value.builtin "BaseException.__getattribute__")) = false := by cases expr <;> rfl
  have f3 := gaSlot.bind (.ref e)
  unfold getAttr getAttrBy
  refine wpAny_bind (wpAny_mkText (wpAny_holding (wpAny_bind (L0.at (wpAny_bind (L1.at ?_))))))
  dsimp only
  rw [hx1, if_neg (by decide)]
  unfold getAttrByItsOwn
  refine wpAny_bind ?_
  show wpAny _ _ (typeLookup (.ref 52) "__getattr__") _ _ _
  refine L2.at ?_
  refine wpAny_bind ?_
  refine wpAny_attempt (wpAny_holding ?_)
  unfold callGetattribute
  rw [hx0, if_neg (by decide)]
  unfold boundAndCalled
  rw [f3]
  refine wpAny_bind (wpAny_pure (wpAny_call (fault_ga X I hf ?_)))
  dsimp only
  rw [handedOut_of hh]
  exact wpAny_pure hq
end

theorem fault_at {w : World} {A : Around} {E : Value → Shared → Prop} {s : Shared} {expr : Bool} {Q : Value → Shared → Prop} {e d : Addr} {oe : Obj} {mA : Str → Option Value} {kk : Int} {t9 : Tok} (X : (Mine.hd.heap_39 w.params).In s.heap)
    (he : s.heap.get? e = some oe) (hc : oe.cls = .ref 52) (hno : notCls oe = true) (hd : oe.dict = some d) (hn : s.heap.Ns1 d mA) (ha : mA (Str.ofString "at") = some (.int kk t9)) (h : Q (.int kk t9) { s with toks := s.toks + 1 }) :
    wpAny (model prg w) A (getAttr (.ref e) (Str.ofString "at") expr) Q E s := by
  obtain ⟨od, es, ep, hod, hdd, _, _, hf⟩ := id hn
  have I : PySem.W.InstAt s.heap e oe 52 (some od) := ⟨he, hc, hno, by rw [hd]; exact hod⟩
  have hl : lookIn (Str.ofString "at") od = some (some (.int kk t9)) := by
    have := hf (Str.ofString "at")
    rw [ha] at this
    unfold lookIn
    rw [hdd]
    unfold nsFind findBy at this
    rw [← Array.find?_toList] at this
    dsimp only
    cases q : es.toList.find? (fun e => e.key.isStr (Str.ofString "at")) with
    | none => rw [q] at this; cases this
    | some y =>
      rw [q] at this
      exact congrArg some this
  obtain ⟨hh, g, dd, t, os⟩ := s
  exact fault_attr X I (findObj_own (by k_is) (by k_is) (by k_is) hl) rfl h
end Mine

end

section
set_option maxRecDepth 100000
set_option maxHeartbeats 8000000
open PySem PySem.W PyProof.Rows PySem.Calls
namespace Mine
local macro_rules | `(tactic| walk_at "my pad E1 0") => `(tactic| fail "none")
local macro_rules | `(tactic| walk_at "my pad E1 1") => `(tactic| fail "none")
local macro_rules | `(tactic| walk_at "my pad E1 2") => `(tactic| fail "none")
local macro_rules | `(tactic| walk_at "my pad E1 3") => `(tactic| fail "none")
local macro_rules | `(tactic| walk_at "my pad E1 4") => `(tactic| fail "none")
local macro_rules | `(tactic| walk_at "my pad E1 5") => `(tactic| fail "none")
local macro_rules | `(tactic| walk_at "my pad E1 6") => `(tactic| fail "none")
local macro_rules | `(tactic| walk_at "my pad E1 7") => `(tactic| fail "none")
local macro_rules | `(tactic| walk_at "my pad E1 8") => `(tactic| fail "none")
local macro_rules | `(tactic| walk_at "my pad E1 9") => `(tactic| fail "none")
local macro_rules | `(tactic| walk_at "my pad E1 10") => `(tactic| fail "none")
local macro_rules | `(tactic| walk_at "my pad E1 11") => `(tactic| fail "none")
local macro_rules | `(tactic| walk_at "my pad E1 12") => `(tactic| fail "none")
local macro_rules | `(tactic| walk_at "my pad E1 13") => `(tactic| fail "none")
local macro_rules | `(tactic| walk_at "my pad E1 14") => `(tactic| fail "none")
local macro_rules | `(tactic| walk_at "my pad E1 15") => `(tactic| fail "none")
local macro_rules | `(tactic| walk_at "my pad E1 16") => `(tactic| fail "none")
local macro_rules | `(tactic| walk_at "my pad E1 17") => `(tactic| fail "none")
open PySem.Challenge

theorem primeE1 {w : World} {h : Heap} : (Mine.hd.heap_39 w.params).In h → rw_or0016_01.prog = rw_or0016_01.prog := by
  k_fill
  intro _; rfl

section
variable {w : World} {mean : ExcName → Option Value} {mg mb : Str → Option Value} {A : Around} {E : Value → Shared → Prop} {s' : Shared} {base g G : Heap} {outer : List Env} {L a e : Addr} {m : Str → Option Value} {name : Str} {scope : Scope} {cd : Value}
  {n : Str} {b₀ : Stmt} {suite : List Stmt} {pos np : Pos} {rest : List ExceptHandler} {Q : Flow → Shared → Prop} {x : Str} {kk : Int}

theorem caught_own (fl : Flown (envOf name scope L a cd :: outer) G s'.heap e kk) (F : Fr g L G m) (C : Cx w mean mg mb A outer base g)
    (ex : nsIn (Mine.hd.heap_39 w.params) mainGlobals x = some (some (.ref 52))) (q : ktsIn (Mine.hd.heap_39 w.params) 52 "BaseException" = true)
    (k : ∀ h' g' tk oe d mA t9, KtsTurn (framesAt outer) g g' → Fr g' L h' (fun y => if y = n then some (.ref e) else m y) → News g' L h' [] → Below A base outer g' → (Mine.hd.heap_39 w.params).In g' → Top view loose mean mg mb g' →
      h'.get? e = some oe → oe.cls = .ref 52 → notCls oe = true → oe.dict = some d → h'.Ns1 d mA → mA (Str.ofString "at") = some (.int kk t9) →
      wpAny (model prg w) ((A.deeper (envOf name scope L a cd)).mark (some (.ref e))) (execs (b₀ :: suite) (envOf name scope L a cd))
        (fun f s₄ => wpAny (model prg w) (A.deeper (envOf name scope L a cd)) (do bindName (envOf name scope L a cd) n .none; unbindBehindTheSuite (envOf name scope L a cd) n pos) (fun _ s₅ => Q f s₅) E s₄)
        (AsSuiteRaised (model prg w) ((A.deeper (envOf name scope L a cd)).mark (some (.ref e))) (envOf name scope L a cd) n pos (notedBy (model prg w) ((A.deeper (envOf name scope L a cd)).mark (some (.ref e))) (envOf name scope L a cd) (cameBackBy (model prg w) (A.deeper (envOf name scope L a cd)) (envOf name scope L a cd) E)))
        { s' with heap := h', toks := tk })
    (hk : scope.kind = .function := by rfl) (hlo : (envOf name scope L a cd).kindOf n = some .local := by rfl) (hx : (envOf name scope L a cd).kindOf x = some .globalImplicit := by rfl) (hd : (x == ("__debug__" : Str)) = false := by decide) :
    wpAny (model prg w) (A.deeper (envOf name scope L a cd)) (noteFrame (.ref e) (envOf name scope L a cd))
      (fun _ s₂ => wpAny (model prg w) (A.deeper (envOf name scope L a cd)) (setFlight (.ref e) none) (fun _ s₃ =>
        wpAny (model prg w) (A.deeper (envOf name scope L a cd)) (handleBy (.ref e) (envOf name scope L a cd) (.ExceptHandler (some (.Name x np)) (some n) (b₀ :: suite) pos :: rest)) Q E s₃) E s₂) E s' := by
  obtain ⟨t0, d, mA, t9, hfl, hsm, ⟨oe₁, he₁, hd₁⟩, ne, nd, hn₁, hat⟩ := fl
  have hBG : ∀ b o, G.get? b = some o → b ∉ (envOf name scope L a cd :: outer).filterMap (·.frame) → (hideAll G (framesAt (envOf name scope L a cd :: outer))).get? b = some o := fun b o q nm => hideAll_get _ q nm
  have K := C.below
  refine tame_any (tame_noteFrame _ _) (wpAny_looks_onW (Around.frames_deeper K.stack) rfl hfl fun h₄ hheld₄ hsm₄ hk₄ => ?_)
  obtain ⟨oe₄, he₄, hd₄⟩ := hk₄ e _ he₁
  refine tame_any (tame_setFlight _ _) (wpAny_landsW hheld₄ fun h₅ hheld hsm₅' hk₅ => ?_)
  obtain ⟨oe₅, he₅, hd₅⟩ := hk₅ e _ he₄
  have hsm₅ := hsm₄.trans hsm₅'
  obtain ⟨g₅, T₅, F₅, K₅⟩ := kts_ground K F hBG hheld.1 (hsm.trans hsm₅)
  have X₅ : (Mine.hd.heap_39 w.params).In g₅ := C.K.keeps K₅.stays
  have P₅ : TopRead view loose mg mb g₅ := topRead_of (C.T.keeps K₅.stays)
  obtain ⟨ob, hob, hobc⟩ := hheld.there
  obtain ⟨nm, q', N, bs, bm, hdct, sn, sub, ab, col, dd, k0, k1, k2, k3, k5, newId, hC, hbase, hbT⟩ := kts_cls X₅ q
  have hC₅ := F₅.keep _ _ hC
  refine wpAny_handleBy_cons (codeAny_handlers_test (name_K F₅ X₅ P₅ ex ?_ hk hx hd)) (by intro q; cases q)
  refine wpAny_excMatches_sub_self hC₅ hob hobc hbase (codeAny_handlers_suite_as ?_)
  refine tame_any (tame_setFlight _ _) (lands_againW hheld fun h₆ hfl₆ hsm₆ hk₆ => ?_)
  obtain ⟨oe₆, he₆, hd₆⟩ := hk₆ e _ he₅
  obtain ⟨g₆, T₆, F₆, K₆⟩ := kts_ground K F hBG hfl₆.1 ((hsm.trans hsm₅).trans hsm₆)
  obtain ⟨oe, ws, hoe, hoec, hoed, hoe0⟩ := hfl₆.first
  obtain rfl : oe₆ = oe := Option.some.inj (he₆.symm.trans hoe)
  have hn₆ : h₆.Ns1 d mA := ns1_slots (ns1_slots hn₁ hsm₅) hsm₆
  obtain ⟨oL, _, _, hoL, _⟩ := F.ns
  have eL : e ≠ L := fun z => by rw [z, hoL] at ne; cases ne
  have dL : d ≠ L := fun z => by rw [z, hoL] at nd; cases nd
  refine wpAny_storeName_local hlo F₆.ns (fun h₇ hn hs => ?_) (by show (scope.kind == .class || (scope.kind == .module && L != mainGlobals)) = false; rw [hk]; rfl)
  exact k h₇ g₆ _ oe₆ d mA t9 T₆ (F₆.set hn hs) News.nil K₆ (C.K.keeps K₆.stays) (C.T.keeps K₆.stays) ((hs.2 e eL).trans hoe) hoec (by unfold notCls; rw [hoed]) (((hd₆.trans hd₅).trans hd₄).trans hd₁) (hn₆.sameBut hs dL) hat
end

local macro_rules | `(tactic| walk_at "call ref") => `(tactic| (k_here; (with_reducible show wpAny _ _ (call (Value.ref 76) _) _ _ _); (with_reducible rename Fr _ _ _ _ => F'); (with_reducible rename News _ _ _ _ => N'); refine comment_spec (s := ⟨_, _, _, _, _⟩) (Cx.push (by assumption) F') (by (simp only [depth_deeper]; omega)) (by assumption) (by assumption) _ _ (by assumption) ?_ ?_; (all_goals first | (intro acc' i' h' tk' r' t4' t5' hres' kk' hr0' hr'; (obtain ⟨F', N', hne'⟩ := back_new F' N' kk' hr0' hr'); (simp only [NeAll, and_true] at hne')) | (intro k' h' tk' e' hk' fl'))))

theorem heard_spec {w : World} {mean : ExcName → Option Value} {mg mb : Str → Option Value} {A : Around} {outer : List Env} {base : Heap} {s : Shared} {Q E : Value → Shared → Prop}
    (C : Cx w mean mg mb A outer base s.heap) (hd : A.depth + 20 < recursionLimit) {l : List UInt8} {begun f : Nat} {res : Except Nat (List (List UInt8) × Nat)} (hl : l.length ≤ 100000) (hb : begun + 1 ≤ l.length) (t1 t2 : Tok)
    (hs : scan l begun f 1 (begun + 1) [] = some res)
    (ok : ∀ acc i h' tk' r t4 t5, res = .ok (acc, i) → KeepBut [] s.heap h' → s.heap.get? r = none → h'.get? r = some ({ cls := .type "tuple", data := .seq #[.bytes (acc.dropLast.flatten).toArray t4, .int ((i : Nat) : Int) t5] } : Obj) → Q (.ref r) { s with heap := h', toks := tk' })
    (bad : ∀ (k : Nat) h' tk' t4, res = .error k → KeepBut (framesAt outer) s.heap h' → s.heap.UpToSlots h' → Q (.int k t4) { s with heap := h', toks := tk' }) :
    wpAny (model prg w) A (call (.ref 97) [.bytes l.toArray t1, .int begun t2]) Q E s := by
  w_top off
  refine wpAny_call ?_
  refine' enterH C [] ?hS ?ho ?hcd ?hroom ?hb ?hl ?_ ?c2 ?c3 ?c4 ?c5
  case hS => intro q hq; cases hq
  case ho => k_is
  case hcd => k_is
  case hroom => omega
  case hb => exact BindsTo.of_eq rfl
  case hl => exact locs rfl
  case c2 => exact rfl
  case c3 => exact rfl
  case c4 => exact rfl
  case c5 => decide
  intro g' L' h' kb st hL F' N' Cg B' X' T'
  try dsimp only
  try k_fold
  k_steps
  · exact ok _ _ _ _ _ _ _ (by assumption) (keep_end kb (by assumption)) (none_up2 kb (News.fresh (by assumption) (by k_mem))) (by assumption)
  · refine caught_own (by assumption) (by assumption) Cg (by k_is) (by kts_isx) fun h2 g2 tk2 oe d mA t9 T2 F2 N2 B2 X2 P2 a1 a2 a3 a4 a5 a6 => ?_
    k_steps
    refine fault_at (X2.keeps F2.keep) a1 a2 a3 a4 a5 a6 ?_
    k_steps
    rename Fr g2 _ _ _ => F9
    refine bad _ _ _ t9 (by assumption) (fun b o n e => F9.keep _ _ (T2.other b o (kb b o (fun z => nomatch z) e) n)) (fun b o e _ => ?_)
    obtain ⟨sl, hs⟩ := T2.up (kb b o (fun z => nomatch z) e)
    exact ⟨sl, F9.keep _ _ hs⟩
end Mine

end

section
set_option maxRecDepth 100000
set_option maxHeartbeats 8000000
open PySem PySem.W PyProof.Rows PySem.Calls
namespace Mine
open PySem.Challenge

/-- a wall of a tree: the walk knows no rule for it, and no unfolding goes through it -/
noncomputable def hold {α : Type} (t : Sem α) : Sem α := Classical.choose (⟨t, rfl⟩ : ∃ x : Sem α, x = t)
theorem hold_eq {α : Type} (t : Sem α) : hold t = t := Classical.choose_spec (⟨t, rfl⟩ : ∃ x : Sem α, x = t)
theorem hold_here {α : Type} {M : Model} {A : Around} {t : Sem α} {Q : α → Shared → Prop} {E : Value → Shared → Prop} {s : Shared} (h : wpAny M A (hold t) Q E s) : wpAny M A t Q E s := by rw [hold_eq] at h; exact h
theorem hold_out {α : Type} {M : Model} {A : Around} {t : Sem α} {Q : α → Shared → Prop} {E : Value → Shared → Prop} {s : Shared} (h : wpAny M A t Q E s) : wpAny M A (hold t) Q E s := by rw [hold_eq]; exact h

def TurnEnd (h₀ : Heap) (L : Addr) (J : (Str → Option Value) → List (Addr × Obj) → Prop) (I : Addr) (o : Obj) (s₁ s₂ : Shared) : Prop :=
  ∃ h' tk m' news' nx, s₂ = { s₁ with heap := h', toks := tk } ∧ Fr h₀ L h' m' ∧ News h₀ L h' news' ∧ (I, o) ∈ news' ∧ (∀ p ∈ nx, p ∈ news') ∧ NeAll I nx ∧ J m' nx
def TurnPost (h₀ : Heap) (L : Addr) (J : (Str → Option Value) → List (Addr × Obj) → Prop) (I : Addr) (o : Obj) (s₁ : Shared) (Q : Flow → Shared → Prop) (f : Flow) (s₂ : Shared) : Prop :=
  match f with
  | .ret v => Q (.ret v) s₂
  | .brk => Q .next s₂
  | _ => TurnEnd h₀ L J I o s₁ s₂
theorem NeAll.of {r : Addr} {l : List (Addr × Obj)} (h : NeAll r l) : ∀ p ∈ l, p.1 ≠ r := by
  induction l with
  | nil => intro p hp; cases hp
  | cons q l ih =>
    intro p hp
    rcases List.mem_cons.mp hp with e | hp
    · rw [e]; exact h.1
    · exact ih h.2 p hp

theorem range_loop {prog : Program} {w : World} {A : Around} {E : Value → Shared → Prop} {s : Shared} {env : Env} {h₀ : Heap} {x : Str} {body : List Stmt} {Q : Flow → Shared → Prop}
    {r : Addr} {a₀ b₀ : Int} {t₀ u₀ v₀ : Tok} (n : Nat) {m₀ : Str → Option Value} {news : List (Addr × Obj)} (J : Nat → (Str → Option Value) → List (Addr × Obj) → Prop)
    (hh : A.handled = none) (hr : IsRange s.heap r a₀ b₀ 1 t₀ u₀ v₀) (hsmall : Builtin.Range.small a₀ b₀ 1 = true) (hn : Builtin.Range.rangeSize a₀ b₀ 1 = (n : Int)) (F : Fr h₀ env.locals s.heap m₀) (N : News h₀ env.locals s.heap news) (hj : J 0 m₀ news)
    (turn : ∀ i t m₁ nx h tk I o, i < n → NeAll I nx → J i m₁ nx → Fr h₀ env.locals h (fun y => if y = x then some (.int (a₀ + (i : Nat)) t) else m₁ y) → News h₀ env.locals h ((I, o) :: nx) →
      wpAny (model prog w) A (execs body env) (TurnPost h₀ env.locals (J (i + 1)) I o { s with heap := h, toks := tk } Q) E { s with heap := h, toks := tk })
    (done : ∀ m₁ nx h tk, J n m₁ nx → Fr h₀ env.locals h m₁ → News h₀ env.locals h nx → Q .next { s with heap := h, toks := tk }) :
    wpAny (model prog w) A (pyIter (.ref r)) (fun it s₂ => LoopAtV prog w A h₀ env x body Q E it s₂) E s := by
  refine wpAny_pyIter_range hr hsmall ?_
  have W : Walks prog w A s.heap.objs.size [s.heap.objs.size] [s.heap.objs.size] n (fun i v => i < n ∧ ∃ t, v = .int (a₀ + i * 1) t)
      (fun i h => IsRangeIter h s.heap.objs.size (a₀ + (i : Nat) * 1) ((n : Int) - (i : Nat)) 1) := (Walks.range hh _ a₀ 1 n).bound
  refine ⟨_, _, _, n, _, _, m₀, news, J, rfl, W, ?_, ?_, ?_, ?_, F.push _, (fun p hp => ⟨Heap.get?_push_of_some _ (N p hp).1, (N p hp).2⟩), hj, ?_, ?_⟩
  · intro hm
    exact absurd F.ns.lt ((List.mem_singleton.mp hm) ▸ Nat.lt_irrefl _)
  · intro b hb
    rw [List.mem_singleton.mp hb]
    exact next_is_new F
  · intro p hp hI
    exact absurd (Heap.lt_size (N p hp).1) ((List.mem_singleton.mp hI) ▸ Nat.lt_irrefl _)
  · show IsRangeIter _ _ _ _ _
    rw [hn]
    simpa using Heap.get?_push_size _ rfl
  · rintro i v m₁ nx s₁ own ⟨hh', tk', rfl⟩ hi ⟨_, t, rfl⟩ hJ hne hfp how hall hst F₁ N₁
    obtain ⟨o, ho⟩ : ∃ o, hh'.get? s.heap.objs.size = some o := ⟨_, hst⟩
    have hin := hall _ (.head _) (next_is_new F) o ho
    have hown : ∀ q ∈ own, q = (s.heap.objs.size, o) := fun q hq => by
      have h1 := List.mem_singleton.mp (hfp q hq)
      have h2 := how q hq
      rw [h1, ho] at h2
      obtain ⟨q1, q2⟩ := q
      simp only at h1 h2
      rw [h1, Option.some.inj h2]
    simp only [Int.mul_one] at F₁
    refine wpAny_mono (turn i t m₁ nx hh' tk' _ o hi (neAll_of fun p hp q => hne p hp (by rw [q]; exact .head _)) hJ F₁ (fun p hp => ?_)) (fun f s₂ h => ?_) fun _ _ e => e
    · rcases List.mem_cons.mp hp with rfl | hp
      · exact N₁ _ (List.mem_append_left _ hin)
      · exact N₁ _ (List.mem_append_right _ hp)
    · have fin : TurnEnd h₀ env.locals (J (i + 1)) s.heap.objs.size o { s with heap := hh', toks := tk' } s₂ → LoopStepU h₀ env.locals [s.heap.objs.size] own (J (i + 1)) { s with heap := hh', toks := tk' } .next s₂ := by
        rintro ⟨h', tk, m', news', nx, e, F', N', hn, ho, ha, hm⟩
        refine ⟨rfl, h', tk, m', nx, e, F', fun p hp => ?_, fun p hp hq => ha.of p hp (List.mem_singleton.mp hq), hm⟩
        rcases List.mem_append.mp hp with hp | hp
        · rw [hown p hp]; exact N' _ hn
        · exact N' _ (ho p hp)
      cases f with
      | ret v => exact .ret h
      | brk => exact .brk h
      | next => exact .next (fin h)
      | cont => exact .cont (fin h)
  · rintro h' tk m' news' F' N' _ hJ
    exact done m' news' h' tk hJ F' N'

theorem take_rel {w : World} {mean : ExcName → Option Value} {mg mb : Str → Option Value} {A : Around} {outer : List Env} {base : Heap} {s : Shared} {Q E : Value → Shared → Prop}
    (C : Cx w mean mg mb A outer base s.heap) (hd : A.depth + 1 < recursionLimit) (hu : A.units + 8 < cLine) {p : Addr} {vs : List Value} {xs : List Int} {n : Nat}
    (hp : s.heap.get? p = some (listOf vs.toArray n)) (hpb : base.get? p = none) (hi : IntsAre vs xs) (hlen : xs.length ≤ 24) {many : Int} (hm : 0 < many) (hm2 : many ≤ 10000) (t : Tok)
    (ret : ∀ (dg : Nat) h' tk' vs' xs' n' t', (dg : Int) < many → xs'.length ≤ 24 → KeepBut [p] s.heap h' → h'.get? p = some (listOf (List.toArray vs') n') → IntsAre vs' xs' → Q (.int (dg : Int) t') { s with heap := h', toks := tk' }) :
    wpAny (model prg w) A (call (.ref 83) [.ref p, .int many t]) Q E s := by
  refine take_spec C hd hu hp hpb hi hlen many hm hm2 t fun h' tk' vs' n' t' k hp' hi' => ?_
  have h1 : 0 ≤ (takeR xs many).1 ∧ (takeR xs many).1 < many := by
    cases xs with
    | nil => exact ⟨Int.le_refl _, hm⟩
    | cons x r => exact ⟨Int.fmod_nonneg_of_pos x hm, Int.fmod_lt_of_pos x hm⟩
  have h2 : (takeR xs many).2.length ≤ 24 := by
    cases xs with
    | nil => exact Nat.zero_le _
    | cons x r =>
      simp only [takeR, List.length_cons] at hlen ⊢
      split
      · omega
      · exact hlen
  obtain ⟨d, hd'⟩ := Int.eq_ofNat_of_zero_le h1.1
  rw [hd'] at h1 ⊢
  exact ret d h' tk' vs' _ n' t' h1.2 h2 k hp' hi'

theorem cat_B {w : World} {A : Around} {E : Value → Shared → Prop} {s : Shared} {h₀ : Heap} {L a b : Addr} {m : Str → Option Value} {news : List (Addr × Obj)} {l l' : List (List UInt8 × Tok)} {Q : Value → Shared → Prop}
    (F : Fr h₀ L s.heap m) (N : News h₀ L s.heap news) (ha : s.heap.IsList a (bytesVals l).toArray) (hb : s.heap.IsList b (bytesVals l').toArray) (hz : l.length + l'.length ≤ 1000000)
    (h : ∀ D h', Fr h₀ L h' m → News h₀ L h' ((D, listOf (bytesVals (l ++ l')).toArray 0) :: news) → (∀ p ∈ news, p.1 < D) → Q (.ref D) { s with heap := h' }) :
    wpAny (model prg w) A (binaryOp .Add (.ref a) (.ref b)) Q E s := by
  refine kmk_add_lit F N ha hb ?_ h ?_
  · unfold bytesVals
    rw [List.toList_toArray, List.toList_toArray, List.map_append]
  · rw [sizeLine_eq]
    unfold bytesVals
    rw [List.toList_toArray, List.toList_toArray, List.length_map, List.length_map]
    omega

theorem cat_one {w : World} {A : Around} {E : Value → Shared → Prop} {s : Shared} {h₀ : Heap} {L a b : Addr} {m : Str → Option Value} {news : List (Addr × Obj)} {l : List (List UInt8 × Tok)} {o : List UInt8} {t : Tok} {Q : Value → Shared → Prop}
    (F : Fr h₀ L s.heap m) (N : News h₀ L s.heap news) (ha : s.heap.IsList a (bytesVals l).toArray) (hb : s.heap.IsList b #[.bytes o.toArray t]) (hz : l.length ≤ 1000000 - 1)
    (h : ∀ D h', Fr h₀ L h' m → News h₀ L h' ((D, listOf (bytesVals (l ++ [(o, t)])).toArray 0) :: news) → (∀ p ∈ news, p.1 < D) → Q (.ref D) { s with heap := h' }) :
    wpAny (model prg w) A (binaryOp .Add (.ref a) (.ref b)) Q E s :=
  cat_B (l' := [(o, t)]) F N ha hb (by simp only [List.length_cons, List.length_nil]; omega) h
theorem range_small : ∀ d : Nat, d < 5 → Builtin.Range.small 0 (d : Int) 1 = true ∧ Builtin.Range.rangeSize 0 (d : Int) 1 = (d : Int) := by decide
theorem news2 {h₀ h : Heap} {L : Addr} {news : List (Addr × Obj)} {a b : Addr × Obj} (N : News h₀ L h news) (ha : a ∈ news) (hb : b ∈ news) : News h₀ L h [a, b] := fun q hq => by
  rcases List.mem_cons.mp hq with rfl | hq
  · exact N _ ha
  · cases List.mem_singleton.mp hq
    exact N _ hb
end Mine

end

section
set_option maxRecDepth 100000
set_option maxHeartbeats 8000000
namespace Mine
set_option autoImplicit false

/-- the words of the law's menu: what is written, what it tells -/
def menu : List (List UInt8 × List UInt8) := [([97, 98], [97, 98]), ([92, 40], [40]), ([92, 41], [41]), ([13, 10, 32], [32]), ([10], []), ([92, 92, 233], [92, 233]), ([34], [34])]

/-- what the law lays within 4 - j brackets: its pieces, its worth, the depth reached -/
inductive Laid : Nat → List (List UInt8) → List UInt8 → Nat → Prop where
  | nil {j : Nat} : Laid j [] [] (4 - j)
  | word {j : Nat} {laid : List (List UInt8)} {worth : List UInt8} {most : Nat} {one told : List UInt8} : Laid j laid worth most → (one, told) ∈ menu → Laid j (laid ++ [one]) (worth ++ told) most
  | sub {j : Nat} {laid inner : List (List UInt8)} {worth iw : List UInt8} {most reached : Nat} : Laid (j + 1) laid worth most → Laid j inner iw reached → Laid (j + 1) (laid ++ [[40]] ++ inner ++ [[41]]) (worth ++ [40] ++ iw ++ [41]) (max most reached)

def laidC : Nat → Nat
  | 0 => 1
  | j + 1 => 4 * laidC j + 2

structure Few (a i j : Nat) : Prop where
  out : a ≤ i * laidC j

theorem Laid.sizes {j : Nat} {laid : List (List UInt8)} {worth : List UInt8} {most : Nat} (h : Laid j laid worth most) : worth.length ≤ 2 * laid.length ∧ laid.flatten.length ≤ 3 * laid.length ∧ 4 - j ≤ most ∧ most ≤ 4 := by
  induction h with
  | nil => exact ⟨Nat.le_refl _, Nat.zero_le _, Nat.le_refl _, Nat.sub_le _ _⟩
  | word h hm ih =>
    have h1 : ∀ x ∈ menu, x.1.length ≤ 3 ∧ x.2.length ≤ 2 := by decide
    have h2 := h1 _ hm
    simp only at h2
    simp only [List.length_append, List.length_cons, List.length_nil, List.flatten_append, List.flatten_cons, List.flatten_nil, List.append_nil]
    omega
  | sub h1 h2 ih1 ih2 =>
    simp only [List.length_append, List.length_cons, List.length_nil, List.flatten_append, List.flatten_cons, List.flatten_nil, List.append_nil]
    omega
end Mine

end

section
set_option maxRecDepth 100000
set_option maxHeartbeats 8000000
open PySem PySem.W PyProof.Rows PySem.Calls
namespace Mine
local macro_rules | `(tactic| walk_at "my pad K2 0") => `(tactic| fail "none")
local macro_rules | `(tactic| walk_at "my pad K2 1") => `(tactic| fail "none")
local macro_rules | `(tactic| walk_at "my pad K2 2") => `(tactic| fail "none")
local macro_rules | `(tactic| walk_at "my pad K2 3") => `(tactic| fail "none")
local macro_rules | `(tactic| walk_at "my pad K2 4") => `(tactic| fail "none")
local macro_rules | `(tactic| walk_at "my pad K2 5") => `(tactic| fail "none")
local macro_rules | `(tactic| walk_at "my pad K2 6") => `(tactic| fail "none")
local macro_rules | `(tactic| walk_at "my pad K2 7") => `(tactic| fail "none")
local macro_rules | `(tactic| walk_at "my pad K2 8") => `(tactic| fail "none")
local macro_rules | `(tactic| walk_at "my pad K2 9") => `(tactic| fail "none")
local macro_rules | `(tactic| walk_at "my pad K2 10") => `(tactic| fail "none")
local macro_rules | `(tactic| walk_at "my pad K2 11") => `(tactic| fail "none")
local macro_rules | `(tactic| walk_at "my pad K2 12") => `(tactic| fail "none")
local macro_rules | `(tactic| walk_at "my pad K2 13") => `(tactic| fail "none")
local macro_rules | `(tactic| walk_at "my pad K2 14") => `(tactic| fail "none")
local macro_rules | `(tactic| walk_at "my pad K2 15") => `(tactic| fail "none")
local macro_rules | `(tactic| walk_at "my pad K2 16") => `(tactic| fail "none")
local macro_rules | `(tactic| walk_at "my pad K2 17") => `(tactic| fail "none")
local macro_rules | `(tactic| walk_at "my pad K2 18") => `(tactic| fail "none")
local macro_rules | `(tactic| walk_at "my pad K2 19") => `(tactic| fail "none")
open PySem.Challenge

theorem primeK2 {w : World} {h : Heap} : (Mine.hd.heap_39 w.params).In h → rw_or0016_01.prog = rw_or0016_01.prog := by
  k_fill
  intro _; rfl

theorem stop_here {P : Prop} (h : Stop P) : P := h

def InsideSpec (j : Nat) : Prop := ∀ {w : World} {mean : ExcName → Option Value} {mg mb : Str → Option Value} {A : Around} {outer : List Env} {base : Heap} {s : Shared} {Q E : Value → Shared → Prop},
  Cx w mean mg mb A outer base s.heap → A.depth + 4 + j < recursionLimit → A.units + 20 + 6 * j < cLine → ∀ {p : Addr} {vs : List Value} {xs : List Int} {n : Nat} {D : Int} (t : Tok),
    s.heap.get? p = some (listOf vs.toArray n) → base.get? p = none → IntsAre vs xs → xs.length ≤ 24 → D = 4 - (j : Int) →
    (∀ h' tk' vs' xs' n' laid worth (most : Nat) r q c t1 t2, Laid j (laid.map (·.1)) worth most → Few laid.length 4 j → laid.length ≤ 1000 → worth.length ≤ 2000 → xs'.length ≤ 24 → KeepBut [p] s.heap h' → h'.get? p = some (listOf (List.toArray vs') n') → IntsAre vs' xs' →
      s.heap.get? r = none → s.heap.get? q = none → h'.get? q = some (listOf (bytesVals laid).toArray c) → h'.get? r = some ({ cls := .type "tuple", data := .seq #[.ref q, .bytes worth.toArray t1, .int (most : Int) t2] } : Obj) →
      Q (.ref r) { s with heap := h', toks := tk' }) →
    wpAny (model prg w) A (call (.ref 90) [.ref p, .int D t]) Q E s

theorem inside_next {j : Nat} (ih : ∀ j', j' + 1 = j → InsideSpec j') {w : World} {mean : ExcName → Option Value} {mg mb : Str → Option Value} {A : Around} {outer : List Env} {base : Heap} {s : Shared} {Q E : Value → Shared → Prop}
    (C : Cx w mean mg mb A outer base s.heap) (hd : A.depth + 3 + j < recursionLimit) (hu : A.units + 14 + 6 * j < cLine) {p : Addr} {vs : List Value} {xs : List Int} {n : Nat} {D : Int} (t : Tok)
    (hp : s.heap.get? p = some (listOf vs.toArray n)) (hpb : base.get? p = none) (hi : IntsAre vs xs) (hlen : xs.length ≤ 24) (hD : D = 4 - (j : Int)) (hlt : D < 4)
    (ret : ∀ h' tk' vs' xs' n' laid worth (most : Nat) r q c t1 t2 j', j = j' + 1 → Laid j' (laid.map (·.1)) worth most → Few laid.length 4 j' → laid.length ≤ 1000 → worth.length ≤ 2000 → xs'.length ≤ 24 → KeepBut [p] s.heap h' → h'.get? p = some (listOf (List.toArray vs') n') → IntsAre vs' xs' →
      s.heap.get? r = none → s.heap.get? q = none → h'.get? q = some (listOf (bytesVals laid).toArray c) → h'.get? r = some ({ cls := .type "tuple", data := .seq #[.ref q, .bytes worth.toArray t1, .int (most : Int) t2] } : Obj) →
      Q (.ref r) { s with heap := h', toks := tk' }) :
    wpAny (model prg w) A (call (.ref 90) [.ref p, .int (D + 1) t]) Q E s := by
  cases j with
  | zero => exact absurd hlt (by omega)
  | succ j => exact ih j rfl C (by omega) (by omega) t hp hpb hi hlen (by omega) fun h' tk' vs' xs' n' laid worth most r q c t1 t2 a1 a2 a3 a4 => ret h' tk' vs' xs' n' laid worth most r q c t1 t2 j rfl a1 a2 a3 a4

theorem back_call {g h h' : Heap} {L p q r : Addr} {o o' oq or : Obj} {m : Str → Option Value} {news news' : List (Addr × Obj)} (F : Fr g L h m) (N : News g L h news) (U : Upd p o o' news news')
    (k : KeepBut [p] h h') (hp : h'.get? p = some o') (hr0 : h.get? r = none) (hq0 : h.get? q = none) (hq : h'.get? q = some oq) (hr : h'.get? r = some or) :
    Fr g L h' m ∧ News g L h' ((r, or) :: (q, oq) :: news') ∧ NeAll r news ∧ NeAll q news := by
  obtain ⟨F', N'⟩ := back_upd F N U k hp
  have ne : ∀ b, h.get? b = none → NeAll b news := fun b hb => neAll_of fun x hx e => by
    have := (N x hx).1
    rw [e, hb] at this
    cases this
  refine ⟨F', fun x hx => ?_, ne r hr0, ne q hq0⟩
  rcases List.mem_cons.mp hx with rfl | hx
  · exact ⟨hr, fresh_at F hr0⟩
  rcases List.mem_cons.mp hx with rfl | hx
  · exact ⟨hq, fresh_at F hq0⟩
  exact N' x hx

local macro_rules | `(tactic| walk_at "pyIter ref") => `(tactic| (refine hold_here ?_))
local macro_rules | `(tactic| walk_at "call ref") => `(tactic| (k_here; (with_reducible show wpAny _ _ (call (Value.ref 83) _) _ _ _); (with_reducible rename Fr _ _ _ _ => F'); (with_reducible rename News _ _ _ _ => N'); refine take_rel (s := ⟨_, _, _, _, _⟩) (Cx.push (by assumption) F') (by (simp only [depth_deeper]; omega)) (by (simp only [units_deeper]; omega)) (News.get N' (by k_mem)) (by with_reducible assumption) (by with_reducible assumption) (by with_reducible assumption) (by decide) (by decide) _ ?_; intro dg' h' tk' vs' xs' n' t' hdg' hlen' kk' hp' hi'; (have b9 := back_upd F' N' (by k_upd) kk' hp'); (clear F' N' kk' hp'); (obtain ⟨F', N'⟩ := b9)))


theorem laidC_le {j : Nat} (h : j ≤ 3) : laidC j ≤ 106 := by
  have : ∀ j, j ≤ 3 → laidC j ≤ 106 := by decide
  exact this j h
theorem laidC_succ (j : Nat) : laidC (j + 1) = 4 * laidC j + 2 := rfl
theorem few0 (i j : Nat) : Few 0 i j := ⟨Nat.zero_le _⟩
theorem few_one {α : Type} {l : List α} {x : α} {i j : Nat} (h : Few l.length i j) : Few (l ++ [x]).length (i + 1) j := by
  have h := h.out
  refine ⟨?_⟩
  have h1 : 1 ≤ laidC j := by
    cases j with
    | zero => exact Nat.le_refl _
    | succ j => rw [laidC_succ]; omega
  rw [Nat.succ_mul, List.length_append, List.length_cons, List.length_nil]
  omega
theorem few_sub {α : Type} {l l' : List α} {x y : α} {i j : Nat} (h : Few l.length i (j + 1)) (h' : Few l'.length 4 j) : Few (l ++ [x] ++ l' ++ [y]).length (i + 1) (j + 1) := by
  have h := h.out
  have h' := h'.out
  refine ⟨?_⟩
  rw [Nat.succ_mul]
  rw [laidC_succ] at *
  simp only [List.length_append, List.length_cons, List.length_nil]
  omega
theorem few_end {a i j : Nat} (h : Few a i j) (hi : i ≤ 4) : Few a 4 j := ⟨Nat.le_trans h.out (Nat.mul_le_mul_right _ hi)⟩
theorem mem2 {α : Type} {a b : α} {l : List α} (ha : a ∈ l) (hb : b ∈ l) : ∀ x ∈ [a, b], x ∈ l := fun x hx => by
  rcases List.mem_cons.mp hx with rfl | hx
  · exact ha
  · cases List.mem_singleton.mp hx
    exact hb
theorem none_up3 {g h₀ : Heap} {b p : Addr} (kb : KeepBut [p] h₀ g) (hb : g.get? b = none) (hne : @Ne Nat b p) : h₀.get? b = none := by
  cases q : h₀.get? b with
  | none => rfl
  | some o => rw [kb _ _ (fun z => hne (List.mem_singleton.mp z)) q] at hb; cases hb
def IJ (j : Nat) (p : Addr) (D : Int) (t : Tok) (i : Nat) (m : Str → Option Value) (nx : List (Addr × Obj)) : Prop :=
  ∃ (laid : List (List UInt8 × Tok)) (worth : List UInt8) (most : Nat) (M : Int) (q : Addr) (c : Nat) (vs : List Value) (n : Nat) (xs : List Int) (tw tm : Tok),
    m (Str.ofString "pool") = some (.ref p) ∧ m (Str.ofString "deep") = some (.int D t) ∧ m (Str.ofString "laid") = some (.ref q) ∧ m (Str.ofString "worth") = some (.bytes worth.toArray tw) ∧ m (Str.ofString "most") = some (.int M tm) ∧
    M = (most : Int) ∧ nx = [(p, listOf vs.toArray n), (q, listOf (bytesVals laid).toArray c)] ∧ @Ne Nat p q ∧ IntsAre vs xs ∧ xs.length ≤ 24 ∧ Laid j (laid.map (·.1)) worth most ∧ Few laid.length i j


local macro_rules | `(tactic| walk_at "unpackItems") => `(tactic| (k_here; (with_reducible rename Fr _ _ _ _ => F'); (with_reducible rename News _ _ _ _ => N'); refine unpackItemsN_ F' N' (News.isTup N' (by k_mem)) (deeper_handled (by assumption)) (by rfl) ?_; clear F' N'; intro h' F' N'))
local macro_rules | `(tactic| walk_at "assign Tuple") => `(tactic| (k_here; (with_reducible show wpAny _ _ (assign (Expr.Tuple _ _ _) _ (Value.ref _)) _ _ _); (with_reducible rename Fr _ _ _ _ => F'); (with_reducible rename News _ _ _ _ => N'); refine unpackN_ F' N' (News.isTup N' (by k_mem)) (deeper_handled (by assumption)) rfl rfl ?_; clear F' N'; intro h' F' N'))
local macro_rules | `(tactic| walk_at "binaryOp Add ref ref") => `(tactic| (k_here; (with_reducible rename Fr _ _ _ _ => F'); (with_reducible rename News _ _ _ _ => N'); k_dflt (first | (refine' cat_one F' N' ?ha ?hb ?hz ?_; (case ha => kmk_list); (case hb => kmk_list); (case hz => ((try simp only [List.length_append, List.length_cons, List.length_nil]); omega))) | (refine' cat_B F' N' ?ha ?hb ?hz ?_; (case ha => kmk_list); (case hb => kmk_list); (case hz => ((try simp only [List.length_append, List.length_cons, List.length_nil]); omega)))); clear F' N'; intro D' h' F' N' l1; (try k_lt l1)))
local macro_rules | `(tactic| walk_at "binaryOp Add bytes bytes") => `(tactic| (k_here; refine bytes_add_K (by (simp only [List.size_toArray, List.length_append, List.length_cons, List.length_nil]; omega)) rfl ?_; intro _ _))
local macro_rules | `(tactic| walk_at "call builtin:max") => `(tactic| (k_here; (with_reducible rename Fr _ _ _ _ => F'); (with_reducible rename News _ _ _ _ => N'); refine max_two_N (deeper_handled (by assumption)) F' N' ?_; clear F' N'; intro h' tk' F' N'))

local macro_rules | `(tactic| walk_at "call ref") => `(tactic| (k_here; (with_reducible show wpAny _ _ (call (Value.ref 90) _) _ _ _); (with_reducible rename Fr _ _ _ _ => F'); (with_reducible rename News _ _ _ _ => N'); refine inside_next (by with_reducible assumption) (s := ⟨_, _, _, _, _⟩) (Cx.push (by with_reducible assumption) F') (by (simp only [depth_deeper]; omega)) (by (simp only [units_deeper]; omega)) _ (News.get N' (by k_mem)) (by with_reducible assumption) (by with_reducible assumption) (by with_reducible assumption) (by with_reducible assumption) (by with_reducible assumption) ?_; intro h' tk' vs' xs' n' laid' worth' most' r' q' c' t1' t2' j' hj' hlaid' hfew' hll' hww' hlen' kk' hp' hi' hr0' hq0' hq' hr'; (have b9 := back_call F' N' (by k_upd) kk' hp' hr0' hq0' hq' hr'); (clear F' N' kk' hp' hr0' hq0' hq' hr'); (obtain ⟨F', N', ne1', ne2'⟩ := b9); (simp only [NeAll, and_true] at ne1' ne2')))

theorem turn_next {g h' : Heap} {L I p q : Addr} {o : Obj} {m' : Str → Option Value} {news' : List (Addr × Obj)} {j i : Nat} {D M : Int} {t : Tok} {laid : List (List UInt8 × Tok)} {worth : List UInt8} {most c n tk : Nat} {vs : List Value} {xs : List Int} {tw tm : Tok} {s₁ : Shared} {Q : Flow → Shared → Prop}
    (F : Fr g L h' m') (N : News g L h' news') (e1 : m' (Str.ofString "pool") = some (.ref p)) (e2 : m' (Str.ofString "deep") = some (.int D t)) (e3 : m' (Str.ofString "laid") = some (.ref q)) (e4 : m' (Str.ofString "worth") = some (.bytes worth.toArray tw)) (e5 : m' (Str.ofString "most") = some (.int M tm))
    (hp : (p, listOf vs.toArray n) ∈ news') (hq : (q, listOf (bytesVals laid).toArray c) ∈ news') (mem : (I, o) ∈ news') (hpI : @Ne Nat p I) (hqI : @Ne Nat q I) (hpq : @Ne Nat p q) (hIn : IntsAre vs xs) (hLn : xs.length ≤ 24) (hL : Laid j (laid.map (·.1)) worth most) (hF : Few laid.length (i + 1) j) (hM : M = (most : Int)) :
    TurnPost g L (IJ j p D t (i + 1)) I o s₁ Q .next { s₁ with heap := h', toks := tk } :=
  ⟨h', tk, m', news', _, rfl, F, N, mem, mem2 hp hq, ⟨hpI, hqI, trivial⟩, laid, worth, most, M, q, c, vs, n, xs, tw, tm, e1, e2, e3, e4, e5, hM, rfl, hpq, hIn, hLn, hL, hF⟩

abbrev tup2 (a b : Value) : Obj := { cls := .type "tuple", data := .seq #[a, b] }
theorem menu_item {w : World} {A : Around} {E : Value → Shared → Prop} {s : Shared} {g : Heap} {L T d0 d1 d2 d3 d4 d5 d6 : Addr} {m : Str → Option Value} {u t0 t1 t2 t3 t4 t5 t6 t7 t8 t9 t10 t11 t12 t13 : Tok} {rest : List (Addr × Obj)} {dg : Nat} {value slice : Expr} {Q : Value → Shared → Prop}
    (N : News g L s.heap ((T, { cls := .type "tuple", data := .seq #[.ref d0, .ref d1, .ref d2, .ref d3, .ref d4, .ref d5, .ref d6] }) :: (d6, tup2 (.bytes [34].toArray t12) (.bytes [34].toArray t13)) :: (d5, tup2 (.bytes [92, 92, 233].toArray t10) (.bytes [92, 233].toArray t11)) ::
      (d4, tup2 (.bytes [10].toArray t8) (.bytes [].toArray t9)) :: (d3, tup2 (.bytes [13, 10, 32].toArray t6) (.bytes [32].toArray t7)) :: (d2, tup2 (.bytes [92, 41].toArray t4) (.bytes [41].toArray t5)) :: (d1, tup2 (.bytes [92, 40].toArray t2) (.bytes [40].toArray t3)) ::
      (d0, tup2 (.bytes [97, 98].toArray t0) (.bytes [97, 98].toArray t1)) :: rest)) (hd : (dg : Int) < 7)
    (hs : subscripted slice false (.ref T) (.int dg u) = operate [.ref T, .int dg u] (getItem (.ref T) (.int dg u)))
    (h : ∀ R one told ta tb, (one, told) ∈ menu → one.length ≤ 3 → told.length ≤ 2 → News g L s.heap ((R, tup2 (.bytes (List.toArray one) ta) (.bytes (List.toArray told) tb)) :: rest) → Q (.ref R) s) : wpAny (model prg w) A (subscriptTail value slice (.ref T) (.int dg u)) Q E s := by
  have sub : ∀ {x : Addr × Obj}, News g L s.heap (x :: rest) ↔ News g L s.heap (x :: rest) := Iff.rfl
  have ht := News.isTup N (.head _)
  have hdg : dg = 0 ∨ dg = 1 ∨ dg = 2 ∨ dg = 3 ∨ dg = 4 ∨ dg = 5 ∨ dg = 6 := by omega
  have tl : ∀ q ∈ rest, s.heap.get? q.1 = some q.2 ∧ q.1 ≠ L ∧ g.get? q.1 = none := fun q hq => N q (.tail _ (.tail _ (.tail _ (.tail _ (.tail _ (.tail _ (.tail _ (.tail _ hq))))))))
  have mk : ∀ {x : Addr × Obj}, (s.heap.get? x.1 = some x.2 ∧ x.1 ≠ L ∧ g.get? x.1 = none) → News g L s.heap (x :: rest) := fun hx q hq => by
    rcases List.mem_cons.mp hq with rfl | hq
    · exact hx
    · exact tl q hq
  rcases hdg with rfl | rfl | rfl | rfl | rfl | rfl | rfl
  · exact item_tupleT (j := 0) (x := .ref d0) ht (by decide) (by decide) rfl rfl (h d0 _ _ _ _ (by decide) (by decide) (by decide) (mk (N _ (.tail _ (.tail _ (.tail _ (.tail _ (.tail _ (.tail _ (.tail _ (.head _))))))))))) hs
  · exact item_tupleT (j := 1) (x := .ref d1) ht (by decide) (by decide) rfl rfl (h d1 _ _ _ _ (by decide) (by decide) (by decide) (mk (N _ (.tail _ (.tail _ (.tail _ (.tail _ (.tail _ (.tail _ (.head _)))))))))) hs
  · exact item_tupleT (j := 2) (x := .ref d2) ht (by decide) (by decide) rfl rfl (h d2 _ _ _ _ (by decide) (by decide) (by decide) (mk (N _ (.tail _ (.tail _ (.tail _ (.tail _ (.tail _ (.head _))))))))) hs
  · exact item_tupleT (j := 3) (x := .ref d3) ht (by decide) (by decide) rfl rfl (h d3 _ _ _ _ (by decide) (by decide) (by decide) (mk (N _ (.tail _ (.tail _ (.tail _ (.tail _ (.head _)))))))) hs
  · exact item_tupleT (j := 4) (x := .ref d4) ht (by decide) (by decide) rfl rfl (h d4 _ _ _ _ (by decide) (by decide) (by decide) (mk (N _ (.tail _ (.tail _ (.tail _ (.head _))))))) hs
  · exact item_tupleT (j := 5) (x := .ref d5) ht (by decide) (by decide) rfl rfl (h d5 _ _ _ _ (by decide) (by decide) (by decide) (mk (N _ (.tail _ (.tail _ (.head _)))))) hs
  · exact item_tupleT (j := 6) (x := .ref d6) ht (by decide) (by decide) rfl rfl (h d6 _ _ _ _ (by decide) (by decide) (by decide) (mk (N _ (.tail _ (.head _))))) hs

local macro_rules | `(tactic| walk_at "ite") => `(tactic| ((with_reducible show if false = true then _ else _); rw [if_neg Bool.false_ne_true]))
local macro_rules | `(tactic| walk_at "subscriptTail") => `(tactic| (k_here; (with_reducible show wpAny _ _ (subscriptTail _ _ (Value.ref _) (Value.int _ _)) _ _ _); (with_reducible rename News _ _ _ _ => N'); k_dflt (refine menu_item N' (by omega) (by with_unfolding_all rfl) ?_); clear N'; intro R' one' told' ta' tb' hmenu' hone' htold' N'))
theorem laid_step (j : Nat) (hj : j ≤ 3) (ih : ∀ j', j' + 1 = j → InsideSpec j') : InsideSpec j := by
  w_top off
  intro w mean mg mb A outer base s Q E C hd hu p vs xs n D t hp hpb hi hlen hD ret
  refine wpAny_call ?_
  refine' enterH C [(p, listOf vs.toArray n)] ?hS ?ho ?hcd ?hroom ?hb ?hl ?_ ?c2 ?c3 ?c4 ?c5
  case hS => intro q hq; cases List.mem_singleton.mp hq; exact ⟨hp, hpb, fun _ _ e => nomatch e⟩
  case ho => k_is
  case hcd => k_is
  case hroom => omega
  case hb => exact BindsTo.of_eq rfl
  case hl => exact locs rfl
  case c2 => exact rfl
  case c3 => exact rfl
  case c4 => exact rfl
  case c5 => decide
  intro g' L' h' kb st hL F' N' Cg B' X' T'
  try dsimp only
  try k_fold
  have hpg : base.get? p = none := hpb
  k_steps
  refine hold_out ?_
  rename Fr _ _ _ _ => F1
  rename News _ _ _ _ => N1
  rename IsRange _ _ _ _ _ _ _ _ => R1
  rename ((_ : Nat) : Int) < 5 => hdg
  obtain ⟨sm, sz⟩ := range_small _ (Int.ofNat_lt.mp (show ((_ : Nat) : Int) < ((5 : Nat) : Int) from hdg))
  refine range_loop _ (IJ j p D t) (deeper_handled Cg) R1 sm sz F1 (news2 N1 (a := (p, _)) (by k_mem) (b := (_, listOf #[] _)) (by k_mem)) ⟨[], [], 4 - j, _, _, _, _, _, _, _, _, rfl, rfl, rfl, rfl, rfl, by omega, rfl, by omega, by with_reducible assumption, by with_reducible assumption, .nil, few0 _ _⟩ ?_ ?_
  · clear F1 N1 R1 sm sz
    rintro i t₁ m₁ nx h tk I o hi hne ⟨laid, worth, most, _, q, c, vs, n, xs, tw, tm, e1, e2, e3, e4, e5, rfl, rfl, hpq, hints, hlen2, hlaid, hll⟩ F₁ N₁
    replace F₁ : Fr g' L' h _ := F₁
    replace N₁ : News g' L' h _ := N₁
    have hIp : @Ne Nat p I := hne.1
    have hIq : @Ne Nat q I := hne.2.1
    clear hne
    rw [map5 e1 e2 e3 e4 e5] at F₁
    clear e1 e2 e3 e4 e5
    have hll2 : laid.length ≤ 1000 := Nat.le_trans hll.out (Nat.le_trans (Nat.mul_le_mul (show i ≤ 5 by omega) (laidC_le hj)) (by decide))
    have hw2 : worth.length ≤ 2000 := by have := hlaid.sizes.1; rw [List.length_map] at this; omega
    try dsimp only at F₁
    k_steps
    · rename Fr _ _ _ _ => F9
      rename News _ _ _ _ => N9
      rename j = _ => hj9
      rename Laid _ _ _ _ => hl9
      subst hj9
      exact turn_next F9 N9 rfl rfl rfl rfl rfl (by k_mem) (by k_mem) (by k_mem) hIp (by omega) (by omega) (by with_reducible assumption) (by with_reducible assumption) (by rw [List.map_append, List.map_append, List.map_append]; exact Laid.sub hlaid hl9) (few_sub hll (by with_reducible assumption)) (by split <;> omega)
    all_goals (
      rename Fr _ _ _ _ => F9
      rename News _ _ _ _ => N9
      exact turn_next F9 N9 rfl rfl rfl rfl rfl (by k_mem) (by k_mem) (by k_mem) hIp (by omega) (by omega) (by with_reducible assumption) (by with_reducible assumption) (by rw [List.map_append]; exact Laid.word hlaid (by dsimp only; decide)) (few_one hll) rfl)
  · intro m₁ nx h tk hJ F2 N2
    clear F1 N1 R1 sm sz
    replace F2 : Fr g' L' h _ := F2
    replace N2 : News g' L' h _ := N2
    obtain ⟨laid, worth, most, _, q, c, vs, n, xs, tw, tm, e1, e2, e3, e4, e5, rfl, rfl, hpq, hints, hlen2, hlaid, hll⟩ := hJ
    rw [map5 e1 e2 e3 e4 e5] at F2
    clear e1 e2 e3 e4 e5
    dsimp only
    have hll2 : laid.length ≤ 1000 := Nat.le_trans hll.out (Nat.le_trans (Nat.mul_le_mul (show _ ≤ 5 by omega) (laidC_le hj)) (by decide))
    have hw2 : worth.length ≤ 2000 := by have := hlaid.sizes.1; rw [List.length_map] at this; omega
    k_steps
    rename Fr _ _ _ _ => F9
    rename News _ _ _ _ => N9
    rename _ ∧ _ => l9
    exact ret _ _ vs xs n laid worth most _ q c _ _ hlaid (few_end hll (by omega)) hll2 hw2 hlen2 (keep_end kb F9) (N9.get (by k_mem)) hints (none_up3 kb (N9.fresh (.head _)) (Nat.ne_of_gt l9.1)) (none_up3 kb (N9.fresh (a := q) (by k_mem)) (Ne.symm hpq)) (N9.get (by k_mem)) (N9.get (.head _))

theorem laid_all : ∀ j, j ≤ 3 → InsideSpec j
  | 0, h => laid_step 0 h fun j' hj' => absurd hj' (Nat.succ_ne_zero j')
  | j + 1, h => laid_step (j + 1) h fun j' hj' => by
    obtain rfl : j' = j := Nat.succ.inj hj'
    exact laid_all j' (Nat.le_of_succ_le h)
end Mine

end

section
set_option maxRecDepth 100000
set_option maxHeartbeats 8000000
namespace Mine
set_option autoImplicit false
set_option linter.unusedVariables false

def opens (l : List UInt8) (i : Nat) : Bool := (l.drop i).take 1 == [40]
def closes (l : List UInt8) (i : Nat) : Bool := (l.drop i).take 1 == [41]

theorem scan_ok {l : List UInt8} {b f d i n : Nat} {acc : List (List UInt8)} {o : List UInt8} (h : insR (l.drop i) = .ok o n) (hd : ¬ (((l.drop i).take 1 == [40]) = true ∧ 20 < d + 2)) :
    scan l b (f + 1) (d + 1) i acc = scan l b f (if ((l.drop i).take 1 == [40]) = true then d + 2 else if ((l.drop i).take 1 == [41]) = true then d else d + 1) (i + n) (acc ++ [o]) := by
  rw [scan, if_neg hd, h]

theorem drop_at {l x r : List UInt8} {i : Nat} (h : l.drop i = x ++ r) : l.drop (i + x.length) = r := by
  rw [← List.drop_drop, h, List.drop_left]

/-- the scan from a place to another within the same depth, that gives `told` -/
def Goes (l : List UInt8) (b d i i' : Nat) (told : List UInt8) : Prop :=
  ∃ (k : Nat) (os : List (List UInt8)), os.flatten = told ∧ ∀ f acc, scan l b (f + k) (d + 1) i acc = scan l b f (d + 1) i' (acc ++ os)
theorem Goes.refl {l : List UInt8} {b d i : Nat} : Goes l b d i i [] := ⟨0, [], rfl, fun f acc => by rw [List.append_nil]; rfl⟩
theorem Goes.trans {l : List UInt8} {b d i j k : Nat} {x y : List UInt8} (h1 : Goes l b d i j x) (h2 : Goes l b d j k y) : Goes l b d i k (x ++ y) := by
  obtain ⟨k1, o1, e1, g1⟩ := h1
  obtain ⟨k2, o2, e2, g2⟩ := h2
  refine ⟨k2 + k1, o1 ++ o2, by rw [List.flatten_append, e1, e2], fun f acc => ?_⟩
  rw [← Nat.add_assoc, g1, g2, List.append_assoc]
theorem Goes.one {l : List UInt8} {b d i n : Nat} {o : List UInt8} (h : insR (l.drop i) = .ok o n) (h1 : ((l.drop i).take 1 == [40]) = false) (h2 : ((l.drop i).take 1 == [41]) = false) : Goes l b d i (i + n) o := by
  refine ⟨1, [o], by simp, fun f acc => ?_⟩
  rw [scan_ok h (fun z => ne_true_of_eq_false h1 z.1), if_neg (ne_true_of_eq_false h1), if_neg (ne_true_of_eq_false h2)]

/-- a written word at a place -/
theorem goes_word {l : List UInt8} {b d i : Nat} {one told r : List UInt8} (hm : (one, told) ∈ menu) (h : l.drop i = one ++ r) : Goes l b d i (i + one.length) told := by
  have two : ∀ {x y : List UInt8} {o1 o2 : List UInt8}, l.drop i = x ++ (y ++ r) → insR (x ++ (y ++ r)) = .ok o1 x.length → insR (y ++ r) = .ok o2 y.length →
      ((x ++ (y ++ r)).take 1 == [40]) = false → ((x ++ (y ++ r)).take 1 == [41]) = false → ((y ++ r).take 1 == [40]) = false → ((y ++ r).take 1 == [41]) = false → Goes l b d i (i + (x ++ y).length) (o1 ++ o2) := by
    intro x y o1 o2 e a1 a2 a3 a4 a5 a6
    have e2 := drop_at e
    rw [List.length_append, ← Nat.add_assoc]
    refine Goes.trans (Goes.one (by rw [e]; exact a1) (by rw [e]; exact a3) (by rw [e]; exact a4)) (Goes.one (by rw [e2]; exact a2) (by rw [e2]; exact a5) (by rw [e2]; exact a6))
  simp only [menu, List.mem_cons, Prod.mk.injEq, List.not_mem_nil, or_false] at hm
  rcases hm with ⟨rfl, rfl⟩ | ⟨rfl, rfl⟩ | ⟨rfl, rfl⟩ | ⟨rfl, rfl⟩ | ⟨rfl, rfl⟩ | ⟨rfl, rfl⟩ | ⟨rfl, rfl⟩
  · exact two (x := [97]) (y := [98]) (o1 := [97]) (o2 := [98]) h (by simp [insR, lineR, never]) (by simp [insR, lineR, never]) (by simp) (by simp) (by simp) (by simp)
  · exact Goes.one (n := 2) (by rw [h]; simp [insR, never]) (by rw [h]; simp) (by rw [h]; simp)
  · exact Goes.one (n := 2) (by rw [h]; simp [insR, never]) (by rw [h]; simp) (by rw [h]; simp)
  · exact two (x := [13, 10]) (y := [32]) (o1 := []) (o2 := [32]) h (by simp [insR, lineR, never]) (by simp [insR, lineR, never]) (by simp) (by simp) (by simp) (by simp)
  · exact Goes.one (n := 1) (by rw [h]; simp [insR, lineR, never]) (by rw [h]; simp) (by rw [h]; simp)
  · exact two (x := [92, 92]) (y := [233]) (o1 := [92]) (o2 := [233]) h (by simp [insR, never]) (by simp [insR, lineR, never]) (by simp) (by simp) (by simp) (by simp)
  · exact Goes.one (n := 1) (by rw [h]; simp [insR, lineR, never]) (by rw [h]; simp) (by rw [h]; simp)
end Mine

end

section
set_option maxRecDepth 100000
set_option maxHeartbeats 8000000
namespace Mine
set_option autoImplicit false
set_option linter.unusedVariables false

section
variable {l : List UInt8} {b d i : Nat}
theorem ins_plain (c : UInt8) (r : List UInt8) (h1 : c = 40 ∨ c = 41) : insR (c :: r) = .ok [c] 1 := by
  rcases h1 with rfl | rfl <;> simp [insR, lineR, never]

theorem scan_open {r : List UInt8} (h : l.drop i = 40 :: r) (hd : d + 2 ≤ 20) (f : Nat) (acc : List (List UInt8)) : scan l b (f + 1) (d + 1) i acc = scan l b f (d + 2) (i + 1) (acc ++ [[40]]) := by
  rw [scan_ok (by rw [h]; exact ins_plain _ _ (.inl rfl)) (fun z => by omega), if_pos (by rw [h]; rfl)]
theorem scan_close {r : List UInt8} (h : l.drop i = 41 :: r) (f : Nat) (acc : List (List UInt8)) : scan l b (f + 1) (d + 1) i acc = scan l b f d (i + 1) (acc ++ [[41]]) := by
  rw [scan_ok (by rw [h]; exact ins_plain _ _ (.inr rfl)) (fun z => by rw [h] at z; exact absurd z.1 (by simp)), if_neg (by rw [h]; simp), if_pos (by rw [h]; rfl)]
theorem scan_deep {r : List UInt8} (h : l.drop i = 40 :: r) (hd : 20 < d + 2) (f : Nat) (acc : List (List UInt8)) : scan l b (f + 1) (d + 1) i acc = some (.error i) := by
  rw [scan, if_pos ⟨by rw [h]; rfl, hd⟩]

theorem drop_cons {c : UInt8} {r : List UInt8} (h : l.drop i = c :: r) : l.drop (i + 1) = r := drop_at (x := [c]) h

/-- a bracket around what goes -/
theorem Goes.wrap {mid r told : List UInt8} (h : l.drop i = 40 :: (mid ++ 41 :: r)) (hd : d + 2 ≤ 20) (g : Goes l b (d + 1) (i + 1) (i + 1 + mid.length) told) : Goes l b d i (i + 1 + mid.length + 1) (40 :: told ++ [41]) := by
  obtain ⟨k, os, e, g⟩ := g
  have h2 : l.drop (i + 1 + mid.length) = 41 :: r := drop_at (drop_cons h)
  refine ⟨1 + (k + 1), [[40]] ++ os ++ [[41]], by simp [e], fun f acc => ?_⟩
  rw [show f + (1 + (k + 1)) = (f + 1 + k) + 1 by omega, scan_open h hd, g, scan_close h2]
  simp only [List.append_assoc]

theorem goes_laid {j : Nat} {ls : List (List UInt8)} {worth : List UInt8} {most : Nat} (hL : Laid j ls worth most) : ∀ {d i : Nat} {r : List UInt8}, j ≤ 4 → l.drop i = ls.flatten ++ r → d + (most - (4 - j)) + 1 ≤ 20 → Goes l b d i (i + ls.flatten.length) worth := by
  induction hL with
  | nil => intro d i r _ _ _; exact Goes.refl
  | @word j laid worth most one told h hm ih =>
    intro d i r hj e hd
    rw [List.flatten_append, List.append_assoc] at e
    have e2 : l.drop (i + laid.flatten.length) = one ++ r := by
      have := drop_at e
      simpa using this
    have g := Goes.trans (ih hj e hd) (goes_word hm e2)
    rw [List.flatten_append, List.length_append]
    simpa [Nat.add_assoc] using g
  | @sub j laid inner worth iw most reached h1 h2 ih1 ih2 =>
    intro d i r hj e hd
    have s1 := h1.sizes
    have s2 := h2.sizes
    have e1 : l.drop i = laid.flatten ++ (40 :: (inner.flatten ++ 41 :: r)) := by simpa using e
    have e2 := drop_at e1
    have g1 := ih1 (d := d) hj e1 (by omega)
    have g2 := Goes.wrap (d := d) e2 (by omega) (ih2 (by omega) (drop_cons e2) (by omega))
    have g := Goes.trans g1 g2
    have el : (laid ++ [[40]] ++ inner ++ [[41]]).flatten.length = laid.flatten.length + 1 + inner.flatten.length + 1 := by simp; omega
    rw [el]
    have ew : worth ++ [40] ++ iw ++ [41] = worth ++ (40 :: iw ++ [41]) := by simp
    rw [ew, show i + (laid.flatten.length + 1 + inner.flatten.length + 1) = i + laid.flatten.length + 1 + inner.flatten.length + 1 by omega]
    exact g

/-- brackets around what goes -/
theorem Goes.nest {mid told : List UInt8} : ∀ (n : Nat) {d i : Nat} {r : List UInt8}, l.drop i = List.replicate n 40 ++ (mid ++ (List.replicate n 41 ++ r)) → d + n + 1 ≤ 20 → (∀ i r, l.drop i = mid ++ r → Goes l b (d + n) i (i + mid.length) told) →
    Goes l b d i (i + n + mid.length + n) (List.replicate n 40 ++ (told ++ List.replicate n 41))
  | 0, d, i, r, h, _, g => by simpa using g i r (by simpa using h)
  | n + 1, d, i, r, h, hd, g => by
    have h' : l.drop i = 40 :: ((List.replicate n 40 ++ (mid ++ List.replicate n 41)) ++ 41 :: r) := by
      rw [h, List.replicate_succ, show List.replicate (n + 1) (41 : UInt8) = List.replicate n 41 ++ [41] from List.replicate_succ' ..]
      simp [List.append_assoc]
    have h3 := drop_cons h'
    have g1 := Goes.nest (mid := mid) (told := told) n (d := d + 1) (i := i + 1) (r := 41 :: r) (by rw [h3]; simp [List.append_assoc]) (by omega) (fun i r e => by have := g i r e; rwa [show d + (n + 1) = d + 1 + n by omega] at this)
    have g2 := Goes.wrap (d := d) h' (by omega) (by
      have el : (List.replicate n (40 : UInt8) ++ (mid ++ List.replicate n 41)).length = n + mid.length + n := by simp; omega
      rw [el]
      rw [show i + 1 + (n + mid.length + n) = i + 1 + n + mid.length + n by omega]
      exact g1)
    have el : i + (n + 1) + mid.length + (n + 1) = i + 1 + (List.replicate n (40 : UInt8) ++ (mid ++ List.replicate n 41)).length + 1 := by simp; omega
    rw [el, List.replicate_succ, show List.replicate (n + 1) (41 : UInt8) = List.replicate n 41 ++ [41] from List.replicate_succ' ..]
    simpa [List.append_assoc] using g2

/-- the scan of a whole comment -/
theorem whole {mid told r : List UInt8} (h : l.drop b = 40 :: (mid ++ 41 :: r)) (g : Goes l b 0 (b + 1) (b + 1 + mid.length) told) :
    ∃ f acc, scan l b f 1 (b + 1) [] = some (.ok (acc, b + 1 + mid.length + 1)) ∧ acc.dropLast.flatten = told := by
  obtain ⟨k, os, e, g⟩ := g
  refine ⟨2 + k, [] ++ os ++ [[41]], ?_, by simp [e]⟩
  rw [g, scan_close (drop_at (drop_cons h))]
  rfl
end
end Mine

end

section
set_option maxRecDepth 100000
set_option maxHeartbeats 8000000
namespace Mine
set_option autoImplicit false
set_option linter.unusedVariables false

/-- the scan is refused further on -/
def Fails (l : List UInt8) (b d i : Nat) : Prop := ∃ k n, ∀ f acc, scan l b (f + n) (d + 1) i acc = some (.error k)
section
variable {l : List UInt8} {b : Nat}
theorem Fails.after {d i j : Nat} {x : List UInt8} (g : Goes l b d i j x) (h : Fails l b d j) : Fails l b d i := by
  obtain ⟨k, os, e, g⟩ := g
  obtain ⟨k', n, h⟩ := h
  exact ⟨k', n + k, fun f acc => by rw [← Nat.add_assoc, g, h]⟩
theorem Fails.opened {d i : Nat} {r : List UInt8} (h : l.drop i = 40 :: r) (hd : d + 2 ≤ 20 → Fails l b (d + 1) (i + 1)) : Fails l b d i := by
  by_cases q : d + 2 ≤ 20
  · obtain ⟨k, n, hf⟩ := hd q
    exact ⟨k, n + 1, fun f acc => by rw [← Nat.add_assoc, scan_open h q, hf]⟩
  · exact ⟨i, 1, fun f acc => scan_deep h (by omega) f acc⟩

theorem too_deep {j : Nat} {ls : List (List UInt8)} {worth : List UInt8} {most : Nat} (hL : Laid j ls worth most) : ∀ {d i : Nat} {r : List UInt8}, j ≤ 4 → l.drop i = ls.flatten ++ r → d + 1 ≤ 20 → 20 < d + (most - (4 - j)) + 1 → Fails l b d i := by
  induction hL with
  | nil => intro d i r _ _ h1 h2; omega
  | @word j laid worth most one told h hm ih =>
    intro d i r hj e h1 h2
    rw [List.flatten_append, List.append_assoc] at e
    exact ih hj e h1 h2
  | @sub j laid inner worth iw most reached h1 h2 ih1 ih2 =>
    intro d i r hj e k1 k2
    have s1 := h1.sizes
    have s2 := h2.sizes
    have e1 : l.drop i = laid.flatten ++ (40 :: (inner.flatten ++ 41 :: r)) := by simpa using e
    by_cases q : 20 < d + (most - (4 - (j + 1))) + 1
    · exact ih1 hj e1 k1 q
    · have e2 := drop_at e1
      refine Fails.after (goes_laid h1 hj e1 (by omega)) (Fails.opened e2 fun q2 => ?_)
      exact ih2 (by omega) (drop_cons e2) (by omega) (by omega)

theorem fails_opens : ∀ (n : Nat) {d i : Nat} {r : List UInt8}, l.drop i = List.replicate n 40 ++ r → d + 1 ≤ 20 → (∀ i, l.drop i = r → d + n + 1 ≤ 20 → Fails l b (d + n) i) → (20 < d + n + 1 → 0 < n) → Fails l b d i
  | 0, d, i, r, h, h1, g, _ => g i (by simpa using h) (by omega)
  | n + 1, d, i, r, h, h1, g, _ => by
    have h' : l.drop i = 40 :: (List.replicate n 40 ++ r) := by rw [h, List.replicate_succ]; rfl
    refine Fails.opened h' fun q => ?_
    refine fails_opens n (drop_cons h') (by omega) (fun i e hd => ?_) (fun z => ?_)
    · have := g i e (by omega)
      rwa [show d + (n + 1) = d + 1 + n by omega] at this
    · omega

/-- the scan comes to a place, at some depth -/
def Into (l : List UInt8) (b d i i' : Nat) : Prop := ∃ k d' os, ∀ f acc, scan l b (f + k) (d + 1) i acc = scan l b f (d' + 1) i' (acc ++ os)
theorem Goes.into {d i j : Nat} {x : List UInt8} (g : Goes l b d i j x) : Into l b d i j := by
  obtain ⟨k, os, e, g⟩ := g
  exact ⟨k, d, os, g⟩
theorem Into.after {d i j m : Nat} {x : List UInt8} (g : Goes l b d i j x) (h : Into l b d j m) : Into l b d i m := by
  obtain ⟨k, os, e, g⟩ := g
  obtain ⟨k', d', os', h⟩ := h
  exact ⟨k' + k, d', os ++ os', fun f acc => by rw [← Nat.add_assoc, g, h, List.append_assoc]⟩

theorem take_app {α : Type} (x y : List α) (c : Nat) : (c ≤ x.length ∧ (x ++ y).take c = x.take c) ∨ ∃ m, c = x.length + m ∧ 0 < m ∧ (x ++ y).take c = x ++ y.take m := by
  by_cases h : c ≤ x.length
  · exact .inl ⟨h, List.take_append_of_le_length h⟩
  · refine .inr ⟨c - x.length, by omega, by omega, ?_⟩
    rw [List.take_append, List.take_of_length_le (by omega)]

theorem into_laid {j : Nat} {ls : List (List UInt8)} {worth : List UInt8} {most : Nat} (hL : Laid j ls worth most) : ∀ {d i c : Nat} {r : List UInt8}, j ≤ 4 → l.drop i = (ls.take c).flatten ++ r → d + (most - (4 - j)) + 1 ≤ 20 → Into l b d i (i + (ls.take c).flatten.length) := by
  induction hL with
  | nil => intro d i c r _ _ _; rw [List.take_nil]; exact Goes.refl.into
  | @word j laid worth most one told h hm ih =>
    intro d i c r hj e hd
    rcases take_app laid [one] c with ⟨_, q⟩ | ⟨m, _, hm0, q⟩
    · rw [q] at e ⊢
      exact ih hj e hd
    · have q2 : [one].take m = [one] := List.take_of_length_le (by simp; omega)
      rw [q2] at q
      rw [q] at e ⊢
      exact (goes_laid (.word h hm) hj e hd).into
  | @sub j laid inner worth iw most reached h1 h2 ih1 ih2 =>
    intro d i c r hj e hd
    have s1 := h1.sizes
    have s2 := h2.sizes
    rw [List.append_assoc, List.append_assoc] at e ⊢
    rcases take_app laid ([[40]] ++ (inner ++ [[41]])) c with ⟨_, q⟩ | ⟨m, hc, hm0, q⟩
    · rw [q] at e ⊢
      exact ih1 hj e (by omega)
    · rw [q] at e ⊢
      obtain ⟨m, rfl⟩ : ∃ m', m = m' + 1 := ⟨m - 1, by omega⟩
      have q3 : ([[40]] ++ (inner ++ [[41]]) : List (List UInt8)).take (m + 1) = [40] :: (inner ++ [[41]]).take m := rfl
      rw [q3] at e ⊢
      rcases take_app inner [[41]] m with ⟨_, q2⟩ | ⟨m2, _, hm2, q2⟩
      · rw [q2] at e ⊢
        have e1 : l.drop i = laid.flatten ++ (40 :: ((inner.take m).flatten ++ r)) := by simpa using e
        have e2 := drop_at e1
        have g1 := goes_laid (b := b) (d := d) h1 hj e1 (by omega)
        obtain ⟨k, d', os, g2⟩ := ih2 (d := d + 1) (by omega) (drop_cons e2) (by omega)
        refine Into.after g1 ⟨k + 1, d', [[40]] ++ os, fun f acc => ?_⟩
        have el : i + (laid ++ ([40] :: inner.take m)).flatten.length = i + laid.flatten.length + 1 + (inner.take m).flatten.length := by simp; omega
        rw [el, ← Nat.add_assoc, scan_open e2 (by omega), g2, List.append_assoc]
      · have q4 : [[41]].take m2 = ([[41]] : List (List UInt8)) := List.take_of_length_le (by simp; omega)
        rw [q2, q4] at e ⊢
        have e0 : l.drop i = (laid ++ [[40]] ++ inner ++ [[41]]).flatten ++ r := by simpa using e
        have g := (goes_laid (b := b) (d := d) (.sub h1 h2) hj e0 hd).into
        have el : (laid ++ ([40] :: (inner ++ [[41]]))).flatten.length = (laid ++ [[40]] ++ inner ++ [[41]]).flatten.length := by simp
        rw [el]
        exact g

theorem Into.err {d i i' k : Nat} (g : Into l b d i i') (h : insR (l.drop i') = .op ∧ k = b ∨ insR (l.drop i') = .bad ∧ k = i') (h0 : ((l.drop i').take 1 == [40]) = false) (acc : List (List UInt8)) : ∃ f, scan l b f (d + 1) i acc = some (.error k) := by
  obtain ⟨n, d', os, g⟩ := g
  refine ⟨1 + n, ?_⟩
  rw [g]
  rw [show (1 : Nat) = 0 + 1 from rfl, scan, if_neg (fun z => ne_true_of_eq_false h0 z.1)]
  rcases h with ⟨h, rfl⟩ | ⟨h, rfl⟩ <;> rw [h]
end
end Mine

end

section
set_option maxRecDepth 100000
set_option maxHeartbeats 8000000
namespace Mine
set_option autoImplicit false
set_option linter.unusedVariables false
section
variable {ls : List (List UInt8)} {worth inner : List UInt8} {most : Nat}
theorem heard1 (hL : Laid 3 ls worth most) (hi : inner = ls.flatten) (ahead behind : List UInt8) : ∃ f acc, scan (ahead ++ [40] ++ inner ++ [41] ++ behind) ahead.length f 1 (ahead.length + 1) [] = some (.ok (acc, ahead.length + 1 + inner.length + 1)) ∧ acc.dropLast.flatten = worth := by
  subst hi
  have s1 := hL.sizes
  have e : (ahead ++ [40] ++ ls.flatten ++ [41] ++ behind).drop ahead.length = 40 :: (ls.flatten ++ 41 :: behind) := by
    simp [List.append_assoc]
  exact whole e (goes_laid hL (by decide) (drop_cons e) (by omega))

theorem deep_eq (n : Nat) (x r : List UInt8) : List.replicate n (40 : UInt8) ++ [40] ++ x ++ [41] ++ List.replicate n 41 ++ r = 40 :: ((List.replicate n 40 ++ (x ++ List.replicate n 41)) ++ 41 :: r) := by
  have h1 : List.replicate n (40 : UInt8) ++ [40] = 40 :: List.replicate n 40 := by rw [← List.replicate_succ', List.replicate_succ]
  have h2 : (41 : UInt8) :: List.replicate n 41 = List.replicate n 41 ++ [41] := by rw [← List.replicate_succ', List.replicate_succ]
  rw [h1]
  simp only [List.append_assoc, List.cons_append, List.nil_append]
  rw [show (41 : UInt8) :: (List.replicate n 41 ++ r) = (41 :: List.replicate n 41) ++ r from rfl, h2]
  simp

theorem heard2 (hL : Laid 3 ls worth most) (hi : inner = ls.flatten) {more : Nat} (hm : more = 20 - most) : ∃ f acc, scan (List.replicate more 40 ++ [40] ++ inner ++ [41] ++ List.replicate more 41) 0 f 1 (0 + 1) [] = some (.ok (acc, (List.replicate more (40 : UInt8) ++ [40] ++ inner ++ [41] ++ List.replicate more 41).length)) ∧
    acc.dropLast.flatten = List.replicate (more - 1) 40 ++ [40] ++ worth ++ [41] ++ List.replicate (more - 1) 41 := by
  subst hi
  have s1 := hL.sizes
  have e : (List.replicate more 40 ++ [40] ++ ls.flatten ++ [41] ++ List.replicate more 41).drop 0 = 40 :: ((List.replicate more 40 ++ (ls.flatten ++ List.replicate more 41)) ++ 41 :: []) := by
    rw [List.drop_zero, ← deep_eq, List.append_nil]
  have g := Goes.nest (l := List.replicate more 40 ++ [40] ++ ls.flatten ++ [41] ++ List.replicate more 41) (b := 0) (mid := ls.flatten) (told := worth) more (d := 0) (i := 1) (r := [41]) (by rw [drop_cons e]; simp [List.append_assoc]) (by omega) (fun i r e => goes_laid hL (by decide) e (by omega))
  obtain ⟨f, acc, h1, h2⟩ := whole (b := 0) e (by
    have el : (List.replicate more (40 : UInt8) ++ (ls.flatten ++ List.replicate more 41)).length = more + ls.flatten.length + more := by simp; omega
    rw [el, show 0 + 1 + (more + ls.flatten.length + more) = 1 + more + ls.flatten.length + more by omega]
    exact g)
  refine ⟨f, acc, ?_, ?_⟩
  · rw [h1]
    have el : 0 + 1 + (List.replicate more (40 : UInt8) ++ (ls.flatten ++ List.replicate more 41)).length + 1 = (List.replicate more (40 : UInt8) ++ [40] ++ ls.flatten ++ [41] ++ List.replicate more 41).length := by simp; omega
    rw [el]
  · rw [h2]
    obtain ⟨n, rfl⟩ : ∃ n, more = n + 1 := ⟨more - 1, by omega⟩
    have := deep_eq n worth []
    rw [List.append_nil] at this
    rw [Nat.add_sub_cancel, this, List.replicate_succ, show List.replicate (n + 1) (41 : UInt8) = List.replicate n 41 ++ [41] from List.replicate_succ' ..]
    simp [List.append_assoc]

theorem heard3 (hL : Laid 3 ls worth most) (hi : inner = ls.flatten) {more : Nat} (hm : more = 20 - most) : ∃ f k, scan ([40] ++ (List.replicate more 40 ++ [40] ++ inner ++ [41] ++ List.replicate more 41) ++ [41]) 0 f 1 (0 + 1) [] = some (.error k) := by
  subst hi
  have s1 := hL.sizes
  have e : ([40] ++ (List.replicate more 40 ++ [40] ++ ls.flatten ++ [41] ++ List.replicate more 41) ++ [41]).drop 1 = List.replicate (more + 1) 40 ++ (ls.flatten ++ ([41] ++ List.replicate more 41 ++ [41])) := by
    rw [List.replicate_succ']
    simp [List.append_assoc]
  obtain ⟨k, n, h⟩ := fails_opens (b := 0) (d := 0) (more + 1) e (by omega) (fun i e2 hd => too_deep hL (by decide) e2 (by omega) (by omega)) (by omega)
  exact ⟨0 + n, k, h 0 []⟩

theorem heard4 : ∃ f, scan (List.replicate 21 40) 0 f 1 (0 + 1) [] = some (.error 20) := ⟨30, by rfl⟩

theorem heard5 (behind : List UInt8) : ∃ f acc, scan (List.replicate 20 40 ++ List.replicate 20 41 ++ behind) 0 f 1 (0 + 1) [] = some (.ok (acc, 40)) ∧ acc.dropLast.flatten = List.replicate 19 40 ++ List.replicate 19 41 := by
  have e : (List.replicate 20 40 ++ List.replicate 20 41 ++ behind).drop 0 = 40 :: ((List.replicate 19 40 ++ ([] ++ List.replicate 19 41)) ++ 41 :: behind) := rfl
  have g := Goes.nest (l := List.replicate 20 40 ++ List.replicate 20 41 ++ behind) (b := 0) (mid := []) (told := []) 19 (d := 0) (i := 1) (r := 41 :: behind) rfl (by decide) (fun i r _ => Goes.refl)
  exact whole (b := 0) e g

theorem heard6 (hL : Laid 3 ls worth most) (ahead : List UInt8) (c : Nat) {x : List UInt8} (hx : x = (ls.take c).flatten) : ∃ f, scan (ahead ++ [40] ++ x) ahead.length f 1 (ahead.length + 1) [] = some (.error ahead.length) := by
  subst hx
  have s1 := hL.sizes
  have e : (ahead ++ [40] ++ (ls.take c).flatten).drop ahead.length = 40 :: ((ls.take c).flatten ++ []) := by simp [List.append_assoc]
  have e2 := drop_at (drop_cons e)
  exact Into.err (into_laid hL (d := 0) (by decide) (drop_cons e) (by omega)) (.inl ⟨by rw [e2]; rfl, rfl⟩) (by rw [e2]; rfl) []

theorem heard7 (hL : Laid 3 ls worth most) (ahead : List UInt8) (c : Nat) {x odd rest : List UInt8} (hx : x = (ls.take c).flatten) (ho : odd = [0] ∨ odd = [13, 97]) : ∃ f, scan (ahead ++ [40] ++ x ++ odd ++ rest ++ [41]) ahead.length f 1 (ahead.length + 1) [] = some (.error (ahead ++ [40] ++ x).length) := by
  subst hx
  have s1 := hL.sizes
  have e : (ahead ++ [40] ++ (ls.take c).flatten ++ odd ++ rest ++ [41]).drop ahead.length = 40 :: ((ls.take c).flatten ++ (odd ++ (rest ++ [41]))) := by simp [List.append_assoc]
  have e2 := drop_at (drop_cons e)
  have el : (ahead ++ [40] ++ (ls.take c).flatten).length = ahead.length + 1 + (ls.take c).flatten.length := by simp only [List.length_append, List.length_cons, List.length_nil]
  rw [el]
  refine Into.err (into_laid hL (d := 0) (by decide) (drop_cons e) (by omega)) (.inr ⟨?_, rfl⟩) ?_ []
  · rw [e2]
    rcases ho with rfl | rfl <;> simp [insR, lineR, never]
  · rw [e2]
    rcases ho with rfl | rfl <;> simp
end
end Mine

end

section
set_option maxRecDepth 100000
set_option maxHeartbeats 8000000
open PySem PySem.W PyProof.Rows PySem.Calls
namespace Mine
open PySem.Challenge

theorem lawA_d (env : Env) {k : Nat} (h : k ≤ 60) : (callerA.deeper env).depth + k < recursionLimit := by
  have : 1 + claimMargin + 1 + 60 < recursionLimit := by decide
  show 1 + claimMargin + 1 + k < recursionLimit
  omega
theorem lawA_u (env : Env) {k : Nat} (h : k ≤ 60) : (callerA.deeper env).units + k < cLine := by
  have : 4 + 3 + 60 < cLine := by decide
  show 4 + 3 + k < cLine
  omega

section
variable {w : World} {mean : ExcName → Option Value} {mg mb : Str → Option Value} {g : Heap} {s : Shared} {Q E : Value → Shared → Prop} {L a : Addr} {m : Str → Option Value} {name : Str} {scope : Scope} {cd : Value} {news : List (Addr × Obj)} {l : List UInt8} {begun f : Nat} {t1 t2 : Tok}
theorem law_heard_ok (C0 : Cx w mean mg mb callerA [] g g) (F : Fr g L s.heap m) (N : News g L s.heap news) {acc : List (List UInt8)} {i : Nat} (hl : l.length ≤ 100000) (hb : begun + 1 ≤ l.length) (hs : scan l begun f 1 (begun + 1) [] = some (.ok (acc, i)))
    (h : ∀ h' tk' r t4 t5, Fr g L h' m → News g L h' ((r, ({ cls := .type "tuple", data := .seq #[.bytes (acc.dropLast.flatten).toArray t4, .int ((i : Nat) : Int) t5] } : Obj)) :: news) → NeAll r news → Q (.ref r) { s with heap := h', toks := tk' }) (hk : scope.kind = .function := by rfl) :
    wpAny (model prg w) (callerA.deeper (envOf name scope L a cd)) (call (.ref 97) [.bytes l.toArray t1, .int begun t2]) Q E s := by
  refine heard_spec (C0.push F hk) (lawA_d _ (by decide)) hl hb t1 t2 hs ?_ ?_
  · intro acc' i' h' tk' r t4 t5 e k hr0 hr
    cases e
    obtain ⟨F', N', ne⟩ := back_new F N k hr0 hr
    exact h h' tk' r t4 t5 F' N' ne
  · intro k h' tk' t4 e
    cases e
theorem law_heard_bad (C0 : Cx w mean mg mb callerA [] g g) (F : Fr g L s.heap m) (N : News g L s.heap news) {k : Nat} {K : Int} (hK : K = (k : Int)) (hl : l.length ≤ 100000) (hb : begun + 1 ≤ l.length) (hs : scan l begun f 1 (begun + 1) [] = some (.error k))
    (h : ∀ h' tk' t4, Fr g L h' m → News g L h' news → Q (.int K t4) { s with heap := h', toks := tk' }) (hk : scope.kind = .function := by rfl) :
    wpAny (model prg w) (callerA.deeper (envOf name scope L a cd)) (call (.ref 97) [.bytes l.toArray t1, .int begun t2]) Q E s := by
  subst hK
  refine heard_spec (C0.push F hk) (lawA_d _ (by decide)) hl hb t1 t2 hs ?_ ?_
  · intro acc' i' h' tk' r t4 t5 e
    cases e
  · intro k' h' tk' t4 e kk U
    cases e
    have hf : ∀ b, b ≠ L → b ∉ framesAt [envOf name scope L a cd] := fun b hb hm => by
      rcases kts_mem hm with z | z
      · exact hb z
      · cases z
    have hL : g.get? L = none := kts_self F
    refine h h' tk' t4 ⟨U.ns F.ns, fun b o e => kk b o (hf b fun q => ?_) (F.keep b o e), F.above⟩ (fun x hx => ⟨kk _ _ (hf _ (N x hx).2.1) (N x hx).1, (N x hx).2⟩)
    rw [q, hL] at e
    cases e
end

section
open PySem.SeqAt
theorem eqAt_bytes {A : Around} {s : Shared} (b : Array UInt8) (t u : Tok) : EqAt A s (.bytes b t) (.bytes b u) true := fun prog w E Q h => by
  unfold eqBool
  refine wpAny_holding ?_
  refine wpAny_ite_split (fun _ => ?_) (fun _ => ?_)
  · exact wpAny_bind (wpAny_rule (wpAny_pure h))
  · refine wpAny_bind (richCompare_gives (T := "bytes") (typeIs_bytes s b t) (typeIs_bytes s b u) FB.slot_bytes_eq FB.entry_bytes_eq (FB.args_bytes_eq_2 _ _) (gives_bytes_eq b b t u) (fun e => nomatch e) (wpAny_truthy_bool ?_))
    rw [beq_self_eq_true]
    exact h

theorem ne_pair {w : World} {A : Around} {E : Value → Shared → Prop} {s : Shared} {r T : Addr} {x y : List UInt8} {i j : Int} {t t' u u' : Tok} {Q : Value → Shared → Prop}
    (h1 : s.heap.IsTuple r #[.bytes x.toArray t, .int i u]) (h2 : s.heap.IsTuple T #[.bytes y.toArray t', .int j u']) (hu : A.units < cLine) (hx : x = y) (hi : i = j) (h : Q (.bool false) s) :
    wpAny (model prg w) A (compareOp .NotEq (.ref r) (.ref T)) Q E s := by
  subst hx hi
  refine RcNeAt.tuples (e := fun _ => true) h1 h2 hu ?_ _ w E Q h
  intro k k1 k2
  match k, k1, k2 with
  | 0, _, _ => exact eqAt_bytes _ _ _
  | 1, _, _ => exact (by have := EqAt.int_int (A := A.in1) (s := s) i u i u'; rw [beq_self_eq_true] at this; exact this)
end

theorem ne_same {w : World} {A : Around} {E : Value → Shared → Prop} {s : Shared} {a b : Int} {t u : Tok} {Q : Value → Shared → Prop} (hab : a = b) (h : Q (.bool false) s) : wpAny (model prg w) A (compareOp .NotEq (.int a t) (.int b u)) Q E s := by
  subst hab
  refine PyProof.Rows.ne_int ?_
  rw [bne_self_eq_false]
  exact h
theorem pick_take (l : List (List UInt8 × Tok)) (n : Nat) : kms_pick (bytesVals l).toArray.toList none (some (n : Int)) = bytesVals (l.take n) := by
  unfold kms_pick
  rw [List.toList_toArray]
  have h1 : kms_lo none (bytesVals l).length = 0 := rfl
  have h2 : kms_hi (some (n : Int)) (bytesVals l).length = min n l.length := by
    unfold kms_hi bytesVals
    dsimp only
    rw [if_neg (by omega), List.length_map, Int.toNat_natCast]
  rw [h1, h2, List.drop_zero, Nat.sub_zero]
  unfold bytesVals
  rw [← List.map_take, ← List.take_take, List.take_of_length_le (Nat.le_refl l.length)]
theorem pick_drop (l : List (List UInt8 × Tok)) (n : Nat) : kms_pick (bytesVals l).toArray.toList (some (n : Int)) none = bytesVals (l.drop n) := by
  unfold kms_pick
  rw [List.toList_toArray]
  have h1 : kms_lo (some (n : Int)) (bytesVals l).length = min n l.length := by
    unfold kms_lo bytesVals
    dsimp only
    rw [if_neg (by omega), List.length_map, Int.toNat_natCast]
  have h2 : kms_hi none (bytesVals l).length = l.length := by
    unfold kms_hi bytesVals
    rw [List.length_map]
  rw [h1, h2]
  unfold bytesVals
  by_cases h : n ≤ l.length
  · rw [Nat.min_eq_left h, List.map_drop, List.take_of_length_le (by simp)]
  · rw [Nat.min_eq_right (by omega), Nat.sub_self, List.take_zero, List.drop_of_length_le (by omega)]
    rfl
theorem flat_take (l : List (List UInt8 × Tok)) (n : Nat) : (l.take n).flatMap (·.1) = ((l.map (·.1)).take n).flatten := by
  rw [List.flatMap_def, List.map_take]
theorem flat_take_le : ∀ (l : List (List UInt8 × Tok)) (n : Nat), ((l.take n).flatMap (·.1)).length ≤ (l.flatMap (·.1)).length
  | [], n => by rw [List.take_nil]; exact Nat.le_refl _
  | a :: r, 0 => Nat.zero_le _
  | a :: r, n + 1 => by
    have := flat_take_le r n
    rw [List.take_succ_cons, List.flatMap_cons, List.flatMap_cons, List.length_append, List.length_append]
    omega
theorem flat_drop_le : ∀ (l : List (List UInt8 × Tok)) (n : Nat), ((l.drop n).flatMap (·.1)).length ≤ (l.flatMap (·.1)).length
  | [], n => by rw [List.drop_nil]; exact Nat.le_refl _
  | a :: r, 0 => Nat.le_refl _
  | a :: r, n + 1 => by
    have := flat_drop_le r n
    rw [List.drop_succ_cons, List.flatMap_cons, List.length_append]
    omega

theorem ne_pairL {w : World} {env : Env} {E : Value → Shared → Prop} {s : Shared} {r T : Addr} {x y : List UInt8} {i j : Int} {t t' u u' : Tok} {Q : Value → Shared → Prop}
    (h1 : IsTup s.heap r #[.bytes x.toArray t, .int i u]) (h2 : IsTup s.heap T #[.bytes y.toArray t', .int j u']) (hx : x = y) (hi : i = j) (h : Q (.bool false) s) :
    wpAny (model prg w) (callerA.deeper env) (compareOp .NotEq (.ref r) (.ref T)) Q E s := ne_pair h1 h2 (lawA_u env (k := 0) (by decide)) hx hi h

theorem len_B {w : World} {A : Around} {E : Value → Shared → Prop} {s : Shared} {D : Addr} {l : List (List UInt8 × Tok)} {Q : Value → Shared → Prop} (hl : s.heap.IsList D (bytesVals l).toArray) (hz : l.length ≤ 1000000) (h : Q (.int (l.length : Int) (s.toks + 1)) { s with toks := s.toks + 1 + 1 }) :
    wpAny (model prg w) A (call (.builtin "len") [.ref D]) Q E s := by
  have e : (bytesVals l).toArray.size = l.length := by unfold bytesVals; rw [List.size_toArray, List.length_map]
  refine call_len_list hl (by rw [e]; omega) ?_
  rw [e]
  exact h
end Mine

end

section
set_option maxRecDepth 100000
set_option maxHeartbeats 8000000
open PySem PySem.W PyProof.Rows PySem.Calls
namespace Mine
local macro_rules | `(tactic| walk_at "my pad L3 0") => `(tactic| fail "none")
local macro_rules | `(tactic| walk_at "my pad L3 1") => `(tactic| fail "none")
local macro_rules | `(tactic| walk_at "my pad L3 2") => `(tactic| fail "none")
local macro_rules | `(tactic| walk_at "my pad L3 3") => `(tactic| fail "none")
local macro_rules | `(tactic| walk_at "my pad L3 4") => `(tactic| fail "none")
local macro_rules | `(tactic| walk_at "my pad L3 5") => `(tactic| fail "none")
local macro_rules | `(tactic| walk_at "my pad L3 6") => `(tactic| fail "none")
local macro_rules | `(tactic| walk_at "my pad L3 7") => `(tactic| fail "none")
local macro_rules | `(tactic| walk_at "my pad L3 8") => `(tactic| fail "none")
local macro_rules | `(tactic| walk_at "my pad L3 9") => `(tactic| fail "none")
local macro_rules | `(tactic| walk_at "my pad L3 10") => `(tactic| fail "none")
local macro_rules | `(tactic| walk_at "my pad L3 11") => `(tactic| fail "none")
local macro_rules | `(tactic| walk_at "my pad L3 12") => `(tactic| fail "none")
local macro_rules | `(tactic| walk_at "my pad L3 13") => `(tactic| fail "none")
local macro_rules | `(tactic| walk_at "my pad L3 14") => `(tactic| fail "none")
local macro_rules | `(tactic| walk_at "my pad L3 15") => `(tactic| fail "none")
local macro_rules | `(tactic| walk_at "my pad L3 16") => `(tactic| fail "none")
local macro_rules | `(tactic| walk_at "my pad L3 17") => `(tactic| fail "none")
local macro_rules | `(tactic| walk_at "my pad L3 18") => `(tactic| fail "none")
local macro_rules | `(tactic| walk_at "my pad L3 19") => `(tactic| fail "none")
local macro_rules | `(tactic| walk_at "my pad L3 20") => `(tactic| fail "none")
local macro_rules | `(tactic| walk_at "my pad L3 21") => `(tactic| fail "none")
local macro_rules | `(tactic| walk_at "my pad L3 22") => `(tactic| fail "none")
local macro_rules | `(tactic| walk_at "my pad L3 23") => `(tactic| fail "none")
local macro_rules | `(tactic| walk_at "my pad L3 24") => `(tactic| fail "none")
local macro_rules | `(tactic| walk_at "my pad L3 25") => `(tactic| fail "none")
local macro_rules | `(tactic| walk_at "my pad L3 26") => `(tactic| fail "none")
local macro_rules | `(tactic| walk_at "my pad L3 27") => `(tactic| fail "none")
local macro_rules | `(tactic| walk_at "my pad L3 28") => `(tactic| fail "none")
local macro_rules | `(tactic| walk_at "my pad L3 29") => `(tactic| fail "none")
local macro_rules | `(tactic| walk_at "my pad L3 30") => `(tactic| fail "none")
open PySem.Challenge

theorem primeL2 {w : World} {h : Heap} : (Mine.hd.heap_39 w.params).In h → rw_or0016_01.prog = rw_or0016_01.prog := by
  k_fill
  intro _; rfl
local macro_rules | `(tactic| walk_at "ite") => `(tactic| ((with_reducible show if false = true then _ else _); rw [if_neg Bool.false_ne_true]))
local macro_rules | `(tactic| walk_at "call ref") => `(tactic| ((with_reducible show wpAny _ _ (call (Value.ref 90) _) _ _ _); refine hold_here ?_))
local macro_rules | `(tactic| walk_at "call ref") => `(tactic| ((with_reducible show wpAny _ _ (call (Value.ref 97) _) _ _ _); refine hold_here ?_))
local macro_rules | `(tactic| walk_at "call ref") => `(tactic| ((with_reducible show wpAny _ _ (call (Value.ref 83) _) _ _ _); refine hold_here ?_))
local macro_rules | `(tactic| walk_at "assign Tuple") => `(tactic| (k_dflt ((with_reducible show wpAny _ _ (assign (Expr.Tuple _ _ _) _ (Value.ref _)) _ _ _); (with_reducible rename Fr _ _ _ _ => F'); (with_reducible rename News _ _ _ _ => N'); refine unpackN_ F' N' (News.isTup N' (by k_mem)) rfl rfl rfl ?_; clear F' N'; intro h' F' N')))
local macro_rules | `(tactic| walk_at "subscriptTail") => `(tactic| (refine hold_here ?_))

theorem menu_bytes {w : World} {A : Around} {E : Value → Shared → Prop} {s : Shared} {T : Addr} {items : List (List UInt8 × Tok)} {u : Tok} {dg : Nat} {value slice : Expr} {Q : Value → Shared → Prop}
    (ht : IsTup s.heap T (bytesVals items).toArray) (hz : items.length ≤ 100) (hd : dg < items.length)
    (hs : subscripted slice false (.ref T) (.int dg u) = operate [.ref T, .int dg u] (getItem (.ref T) (.int dg u)))
    (h : ∀ x tx, x ∈ items.map (·.1) → Q (.bytes (List.toArray x) tx) s) : wpAny (model prg w) A (subscriptTail value slice (.ref T) (.int dg u)) Q E s := by
  have hlen : (bytesVals items).length = items.length := by unfold bytesVals; rw [List.length_map]
  refine item_tupleT (j := dg) (x := .bytes (items[dg]).1.toArray (items[dg]).2) ht (by omega) (by omega) ?_ ?_ (h _ _ (List.mem_map_of_mem (List.getElem_mem hd))) hs
  · unfold seqIndex?
    rw [hlen]
    simp [hd]
    rw [if_neg (show ¬ ((dg : Int) < 0) by omega)]
    omega
  · unfold bytesVals
    rw [List.getElem?_map, List.getElem?_eq_getElem hd]
    rfl
theorem mem3 {α : Type} {a b c x : α} {l : List α} (h : x ∈ [a, b, c]) : x ∈ a :: b :: c :: l := by
  rcases List.mem_cons.mp h with rfl | h
  · exact .head _
  rcases List.mem_cons.mp h with rfl | h
  · exact .tail _ (.head _)
  cases List.mem_singleton.mp h
  exact .tail _ (.tail _ (.head _))
local macro_rules | `(tactic| walk_at "getMethod bytes") => `(tactic| (k_here; k_dflt (refine join_method ?_)))
local macro_rules | `(tactic| walk_at "call builtin:bytes.join") => `(tactic| (k_dflt (refine join_call (News.isList (by assumption) (by k_mem)) (by omega) ?_); intro _ _))
local macro_rules | `(tactic| walk_at "binaryOp Add bytes bytes") => `(tactic| (k_dflt (refine bytes_add_K (by (simp only [List.size_toArray, List.length_append, List.length_cons, List.length_nil, List.length_replicate]; omega)) rfl ?_); intro _ _))
theorem mul_one_B {w : World} {A : Around} {E : Value → Shared → Prop} {s : Shared} {c : UInt8} {n : Int} {t u : Tok} {Q : Value → Shared → Prop} (hlo : -1048576 ≤ n) (hn : n ≤ 1048576) (h : ∀ t' k, Q (.bytes (List.replicate n.toNat c).toArray t') { s with toks := k }) :
    wpAny (model prg w) A (binaryOp .Mult (.bytes [c].toArray t) (.int n u)) Q E s := by
  refine bytes_mul_any (b := [c]) (List.cons_ne_nil _ _) hlo hn (by simp) fun t' k => ?_
  have e : (List.replicate n.toNat [c]).flatten = List.replicate n.toNat c := by
    rw [← List.map_replicate (f := fun c => [c]), ← List.flatMap_def, List.flatMap_singleton']
  rw [e]
  exact h t' k
local macro_rules | `(tactic| walk_at "binaryOp Mult bytes int") => `(tactic| (k_dflt (refine mul_one_B (by omega) (by omega) ?_); intro _ _))
local macro_rules | `(tactic| walk_at "call builtin:len") => `(tactic| (k_dflt (refine len_bytes (by (simp only [List.size_toArray, List.length_append, List.length_cons, List.length_nil, List.length_replicate]; omega)) ?_)))
local macro_rules | `(tactic| walk_at "call builtin:len") => `(tactic| (k_dflt (refine len_B (News.isList (by assumption) (by k_mem)) (by omega) ?_)))
local macro_rules | `(tactic| walk_at "compareOp NotEq ref ref") => `(tactic| (refine hold_here ?_))
local macro_rules | `(tactic| walk_at "compareOp NotEq int int") => `(tactic| (refine hold_here ?_))
local macro_rules | `(tactic| walk_at "subscriptTail Name Slice ref ref") => `(tactic| ((with_reducible show wpAny _ _ (subscriptTail _ (PySem.Expr.Slice _ _ none _) (Value.ref _) (Value.ref _)) _ _ _); k_dflt (refine' kms_slice_lit ?F ?N ?l ?p ?q ?e ?_ ?s ?t ?z; (case F => k_asm); (case N => k_asm); (case l => kmk_list); (case p => kmk_part); (case q => kmk_part); (case e => first | exact pick_take _ _ | exact pick_drop _ _); (case s => with_unfolding_all rfl); (case t => kmk_pure); (case z => (rw [List.size_toArray, sizeLine_eq]; unfold bytesVals; rw [List.length_map]; omega))); intro D' h' F' N' l1; (try k_lt l1); (try k_sweep)))
theorem law_try : PySem.Challenge.rw_or0016_01.Holds := by
  w_top off
  refine Mine.hd ?_
  k_go0
  all_goals try k_fold
  rename Below _ _ _ _ => K0
  rename Top _ _ _ _ _ _ => T0
  rename Frag.In _ _ => X0
  have C0 := Cx.mk K0 ktsDicts_nil X0 T0 rfl
  k_steps
  refine hold_out ?_
  rename Fr _ _ _ _ => F1
  rename News _ _ _ _ => N1
  rename IntsAre _ _ => I1
  refine laid_all 3 (by decide) (s := ⟨_, _, _, _, _⟩) (Cx.push C0 F1) (lawA_d _ (k := 7) (by decide)) (lawA_u _ (k := 38) (by decide)) _ (N1.get (.head _)) (N1.fresh (.head _)) I1 (by rw [List.length_map, List.length_take]; omega) (by decide) ?_
  intro h' tk' vs' xs' n' laid worth most r q c t1 t2 hlaid _ hll hww hxs kk hp hi' hr0 hq0 hq hr
  have b9 := back_call F1 N1 (by k_upd) kk hp hr0 hq0 hq hr
  clear kk hp hr0 hq0 hq hr F1 N1
  obtain ⟨F1, N1, ne1, ne2⟩ := b9
  simp only [NeAll, and_true] at ne1 ne2
  have N2 : News _ _ _ [_, _, _] := fun x hx => N1 x (mem3 hx)
  clear N1
  k_steps
  refine hold_out ?_
  rename Fr _ _ _ _ => F3
  rename News _ _ _ _ => N3
  refine take_rel (s := ⟨_, _, _, _, _⟩) (Cx.push C0 F3) (lawA_d _ (by decide)) (lawA_u _ (by decide)) (News.get N3 (by k_mem)) (News.fresh N3 (by k_mem)) hi' hxs (by decide) (by decide) _ ?_
  intro dg1 h3 tk3 vs3 xs3 n3 t3 hdg1 hxs3 kk3 hp3 hi3
  have b9 := back_upd F3 N3 (by k_upd) kk3 hp3
  clear F3 N3 kk3 hp3
  obtain ⟨F3, N3⟩ := b9
  k_steps
  refine hold_out ?_
  rename News _ _ _ _ => N4
  refine menu_bytes (items := [([], _), ([120, 32], _), ([41, 40], _)]) (News.isTup N4 (.head _)) (Nat.le_of_ble_eq_true rfl) (by exact Int.ofNat_lt.mp hdg1) (by with_unfolding_all rfl) ?_
  intro ahead ta hahead
  k_steps
  refine hold_out ?_
  rename Fr _ _ _ _ => F5
  rename News _ _ _ _ => N5
  refine take_rel (s := ⟨_, _, _, _, _⟩) (Cx.push C0 F5) (lawA_d _ (by decide)) (lawA_u _ (by decide)) (News.get N5 (by k_mem)) (News.fresh N5 (by k_mem)) hi3 hxs3 (by decide) (by decide) _ ?_

  intro dg2 h5 tk5 vs5 xs5 n5 t5 hdg2 hxs5 kk5 hp5 hi5
  have b9 := back_upd F5 N5 (by k_upd) kk5 hp5
  clear F5 N5 kk5 hp5
  obtain ⟨F5, N5⟩ := b9
  k_steps
  refine hold_out ?_
  rename News _ _ _ _ => N6
  refine menu_bytes (items := [([], _), ([41], _), ([40], _), ([0, 121], _)]) (News.isTup N6 (.head _)) (Nat.le_of_ble_eq_true rfl) (by exact Int.ofNat_lt.mp hdg2) (by with_unfolding_all rfl) ?_
  intro behind tb hbehind
  have hal : ahead.length ≤ 2 := by
    have h : ∀ x ∈ [[], [120, 32], [41, 40]], (x : List UInt8).length ≤ 2 := by decide
    exact h _ hahead
  have hbl : behind.length ≤ 2 := by
    have h : ∀ x ∈ [[], [41], [40], [0, 121]], (x : List UInt8).length ≤ 2 := by decide
    exact h _ hbehind
  have hin : (laid.flatMap (·.1)).length ≤ 3000 := by
    have := hlaid.sizes.2.1
    rw [List.length_map, ← List.flatMap_def] at this
    omega
  have hmost := hlaid.sizes.2.2
  have hIn : laid.flatMap (·.1) = (laid.map (·.1)).flatten := List.flatMap_def ..
  k_steps
  refine hold_out ?_
  rename Fr _ _ _ _ => F7
  rename News _ _ _ _ => N7
  obtain ⟨f1, acc1, hs1, hw1⟩ := heard1 hlaid hIn ahead behind
  refine law_heard_ok (s := ⟨_, _, _, _, _⟩) (begun := ahead.toArray.size) C0 F7 N7 (by simp only [List.length_append, List.length_cons, List.length_nil]; omega) (by simp only [List.size_toArray, List.length_append, List.length_cons, List.length_nil]; omega) hs1 ?_
  clear F7 N7
  intro h7 tk7 r7 u7 v7 F7 N7 ne7
  k_steps
  refine hold_out ?_
  rename News _ _ _ _ => N8
  refine ne_pairL (News.isTup N8 (by k_mem)) (News.isTup N8 (by k_mem)) hw1 (by simp only [List.size_toArray, List.length_append, List.length_cons, List.length_nil, List.length_replicate] <;> omega) ?_
  k_steps
  refine hold_out ?_
  rename Fr _ _ _ _ => F9
  rename News _ _ _ _ => N9
  obtain ⟨f2, acc2, hs2, hw2⟩ := heard2 hlaid hIn (more := (20 - (most : Int)).toNat) (by omega)
  refine law_heard_ok (s := ⟨_, _, _, _, _⟩) (begun := 0) C0 F9 N9 (by simp only [List.size_toArray, List.length_append, List.length_cons, List.length_nil, List.length_replicate]; omega) (by simp only [List.size_toArray, List.length_append, List.length_cons, List.length_nil, List.length_replicate]; omega) hs2 ?_
  clear F9 N9
  intro h9 tk9 r9 u9 v9 F9 N9 ne9
  k_steps
  refine hold_out ?_
  rename News _ _ _ _ => N8
  refine ne_pairL (News.isTup N8 (by k_mem)) (News.isTup N8 (by k_mem)) (by rw [hw2, show (20 - (most : Int) - 1).toNat = (20 - (most : Int)).toNat - 1 by omega]) rfl ?_
  k_steps
  refine hold_out ?_
  rename Fr _ _ _ _ => F9
  rename News _ _ _ _ => N9
  obtain ⟨f3, k3, hs3⟩ := heard3 hlaid hIn (more := (20 - (most : Int)).toNat) (by omega)
  refine law_heard_bad (s := ⟨_, _, _, _, _⟩) (begun := 0) C0 F9 N9 rfl (by simp only [List.size_toArray, List.length_append, List.length_cons, List.length_nil, List.length_replicate]; omega) (by simp only [List.size_toArray, List.length_append, List.length_cons, List.length_nil, List.length_replicate]; omega) hs3 ?_
  clear F9 N9
  intro h10 tk10 v10 F9 N9
  k_steps
  refine hold_out ?_
  rename Fr _ _ _ _ => F9
  rename News _ _ _ _ => N9
  obtain ⟨f4, hs4⟩ := heard4
  refine law_heard_bad (s := ⟨_, _, _, _, _⟩) (l := List.replicate 21 40) (begun := 0) (K := 20) C0 F9 N9 rfl (by simp only [List.length_replicate]; decide) (by simp only [List.length_replicate]; decide) hs4 ?_
  clear F9 N9
  intro h11 tk11 v11 F9 N9
  k_steps
  refine hold_out ?_
  refine ne_same rfl ?_
  k_steps
  refine hold_out ?_
  rename Fr _ _ _ _ => F9
  rename News _ _ _ _ => N9
  obtain ⟨f5, acc5, hs5, hw5⟩ := heard5 behind
  refine law_heard_ok (s := ⟨_, _, _, _, _⟩) (l := List.replicate 20 40 ++ List.replicate 20 41 ++ behind) (begun := 0) C0 F9 N9 (by simp only [List.size_toArray, List.length_append, List.length_cons, List.length_nil, List.length_replicate]; omega) (by simp only [List.size_toArray, List.length_append, List.length_cons, List.length_nil, List.length_replicate]; omega) hs5 ?_
  clear F9 N9
  intro h12 tk12 r12 u12 v12 F9 N9 ne12
  k_steps
  refine hold_out ?_
  rename News _ _ _ _ => N8
  refine ne_pairL (News.isTup N8 (by k_mem)) (News.isTup N8 (by k_mem)) hw5 rfl ?_
  k_steps
  refine hold_out ?_
  rename Fr _ _ _ _ => F3
  rename News _ _ _ _ => N3
  have hbv : (bytesVals laid).length = laid.length := by unfold bytesVals; rw [List.length_map]
  refine take_rel (s := ⟨_, _, _, _, _⟩) (Cx.push C0 F3) (lawA_d _ (by decide)) (lawA_u _ (by decide)) (News.get N3 (by k_mem)) (News.fresh N3 (by k_mem)) hi5 hxs5 (by omega) (by omega) _ ?_
  intro count h13 tk13 vs13 xs13 n13 t13 hdg3 hxs13 kk13 hp13 hi13
  simp only [NeAll, and_true] at ne7 ne9 ne12
  have b9 := back_upd F3 N3 (by k_upd) kk13 hp13
  clear F3 N3 kk13 hp13
  obtain ⟨F3, N3⟩ := b9
  have htk := flat_take_le laid count
  have hdr := flat_drop_le laid count
  k_steps
  refine hold_out ?_
  rename Fr _ _ _ _ => F9
  rename News _ _ _ _ => N9
  obtain ⟨f6, hs6⟩ := heard6 hlaid ahead count (flat_take laid count)
  refine law_heard_bad (s := ⟨_, _, _, _, _⟩) (begun := ahead.toArray.size) C0 F9 N9 rfl (by simp only [List.size_toArray, List.length_append, List.length_cons, List.length_nil, List.length_replicate]; omega) (by simp only [List.size_toArray, List.length_append, List.length_cons, List.length_nil, List.length_replicate]; omega) hs6 ?_
  clear F9 N9
  intro h14 tk14 v14 F9 N9
  k_steps
  refine hold_out ?_
  refine ne_same (by simp only [List.size_toArray]) ?_
  k_steps
  refine hold_out ?_
  rename Fr _ _ _ _ => F9
  rename News _ _ _ _ => N9
  obtain ⟨f7, hs7⟩ := heard7 hlaid ahead count (flat_take laid count) (odd := [0]) (rest := (laid.drop count).flatMap (·.1)) (.inl rfl)
  refine law_heard_bad (s := ⟨_, _, _, _, _⟩) (begun := ahead.toArray.size) C0 F9 N9 rfl (by simp only [List.size_toArray, List.length_append, List.length_cons, List.length_nil, List.length_replicate]; omega) (by simp only [List.size_toArray, List.length_append, List.length_cons, List.length_nil, List.length_replicate]; omega) hs7 ?_
  clear F9 N9
  intro h15 tk15 v15 F9 N9
  k_steps
  refine hold_out ?_
  refine ne_same (by simp only [List.size_toArray]) ?_
  k_steps
  refine hold_out ?_
  rename Fr _ _ _ _ => F9
  rename News _ _ _ _ => N9
  obtain ⟨f7, hs7⟩ := heard7 hlaid ahead count (flat_take laid count) (odd := [13, 97]) (rest := (laid.drop count).flatMap (·.1)) (.inr rfl)
  refine law_heard_bad (s := ⟨_, _, _, _, _⟩) (begun := ahead.toArray.size) C0 F9 N9 rfl (by simp only [List.size_toArray, List.length_append, List.length_cons, List.length_nil, List.length_replicate]; omega) (by simp only [List.size_toArray, List.length_append, List.length_cons, List.length_nil, List.length_replicate]; omega) hs7 ?_
  clear F9 N9
  intro h15 tk15 v15 F9 N9
  k_steps
  refine hold_out ?_
  refine ne_same (by simp only [List.size_toArray]) ?_
  k_steps
end Mine

end

set_option maxRecDepth 100000 in
set_option maxHeartbeats 8000000 in
theorem PySem.Challenge.cw_or0016_01_holds : PySem.Challenge.rw_or0016_01.Holds := by
  exact Mine.law_try
