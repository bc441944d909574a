import PyProof.Rows.All
import Wide.All
import OpenK.AllK
import Wide.FinOn
import Lean
import PySem.Challenge.RW_xm0670_01
open PySem PySem.W PyProof.Rows PySem.Calls
set_option Elab.async false
set_option linter.unusedVariables false
set_option linter.unusedSectionVars false
set_option linter.unusedSimpArgs false
set_option compiler.extract_closed false
set_option genSizeOf false
set_option maxRecDepth 100000
set_option maxHeartbeats 4000000
namespace Mine
theorem ws_bare : (["vars", "dir", "locals"] : List Str).filter (readsOut PySem.Challenge.rw_xm0670_01.row.prog PySem.Challenge.rw_xm0670_01.row.prog.main.body) = [] := by
  have h : ∀ n : Str, readsOut PySem.Challenge.rw_xm0670_01.row.prog PySem.Challenge.rw_xm0670_01.row.prog.main.body n = false → ∀ l : List Str, (n :: l).filter (readsOut PySem.Challenge.rw_xm0670_01.row.prog PySem.Challenge.rw_xm0670_01.row.prog.main.body) = l.filter (readsOut PySem.Challenge.rw_xm0670_01.row.prog PySem.Challenge.rw_xm0670_01.row.prog.main.body) := fun n hn l => by rw [List.filter_cons, if_neg (by rw [hn]; decide)]
  rw [h _ (by decide +kernel), h _ (by decide +kernel), h _ (by decide +kernel)]
  rfl
theorem ws : PySem.Challenge.rw_xm0670_01.wellSaid = true := by
  unfold OpenLaw.wellSaid OpenRow.wellSaid OpenRow.partSaid looksOpen
  rw [ws_bare]
  repeat' with_reducible apply look_both
  all_goals first
    | (rw [PySem.W.Fast.te8377067652309620493]; decide +kernel)
    | decide +kernel
inductive AV where
  | none
  | bool (b : Bool)
  | int (i : Int)
  | str (s : Str)
  | ref (a : Addr)
  | other (v : Value)
noncomputable def er : Value → AV
  | .none => .none
  | .bool b => .bool b
  | .int i _ => .int i
  | .str s _ => .str s
  | .ref a => .ref a
  | v => .other v
inductive AObj where
  | list (xs : List AV)
  | tuple (xs : List AV)
  | dictI (kvs : List (Int × AV)) (ep : Nat)
  | dictS (kvs : List (Str × AV))
  | inst (C d : Addr)
  | idict (fs : List (Str × AV))
  | frame (m : List (Str × Option AV))
  | cell (v : Option AV)
  | liter (a : Addr) (i : Nat)
  | riter (c : Int) (n : Nat)
  | kiter (d : Addr) (i n ep : Nat)
  | range (n : Int)
  | exc (C : Addr) (bare : Bool)
noncomputable abbrev Led := List (Addr × AObj)
noncomputable def look (m : List (Str × Option AV)) (x : Str) : Option AV := (m.lookup x).join
inductive Keyed : List DictEntry → List (Str × AV) → Prop
  | nil : Keyed [] []
  | cons {e : DictEntry} {x : Str} {v : AV} {es fs} : (∃ t, e.key = .str x t) → er e.val = v → Keyed es fs → Keyed (e :: es) ((x, v) :: fs)
noncomputable def AObj.Is (prog : Program) (w : World) : AObj → Obj → Prop
  | .list xs, ob => ∃ vs n, ob = { cls := .type "list", data := .seq vs n } ∧ vs.toList.map er = xs
  | .tuple xs, ob => ∃ vs n, ob = { cls := .type "tuple", data := .seq vs n } ∧ vs.toList.map er = xs
  | .dictI kvs ep, ob => ∃ kvs' es, ob.ExactDict ∧ ob.data = .dict es ep ∧ KeysOf (PySem.intKind prog w) es ∧ Pairs (PySem.intKind prog w) es.toList kvs' ∧ (kvs'.map (·.1)).Nodup ∧ kvs'.map (fun p => (p.1, er p.2)) = kvs
  | .dictS kvs, ob => ∃ kvs', ob.IsDictOf (PySem.strKind prog w) kvs' ∧ kvs'.map (fun p => (p.1, er p.2)) = kvs
  | .inst C d, ob => ob = instObj C d
  | .idict fs, ob => (fs.map (·.1)).Nodup ∧ ∃ es n, ob = dictOf es n ∧ Keyed es fs
  | .frame m, ob => (m.map (·.1)).Nodup ∧ ∃ es ep, ob.data = .dict es ep ∧ StrKeys es ∧ ∀ x, (nsFind es x).map er = look m x
  | .cell v, ob => ∃ cv, ob.data = .cell cv ∧ cv.map er = v
  | .liter a i, ob => ob.cls = .type "list_iterator" ∧ ob.data = .fields #[.ref a, .int i 0]
  | .riter c n, ob => ob = { cls := .type "range_iterator", data := .fields #[rawInt c, rawInt n, rawInt 1] }
  | .kiter d i n ep, ob => ob.cls = .type "dict_keyiterator" ∧ ob.data = .fields #[.ref d, .int i 0, .int n 0, .int ep 0]
  | .exc C bare, ob => ob.cls = .ref C ∧ (bare = true → ob.dict = none) ∧ ∃ t, ob.data = .fields #[.ref t, .none, .none, .none, .bool false, .none]
  | .range n, ob => ∃ t u v, ob = { cls := .type "range", data := .fields #[.int 0 t, .int n u, .int 1 v] }
set_option genInjectivity false in
structure Amb where
  prog : Program
  w : World
  K : Frag
  h₀ : Heap
  s₁ : Shared
  p : Program
  loose : List Str
  mean : ExcName → Option Value
  mg : Str → Option Value
  mb : Str → Option Value
  X : K.In h₀
  T : Top p loose mean mg mb h₀
noncomputable abbrev Amb.M (Z : Amb) : Model := model Z.prog Z.w
structure Rel (Z : Amb) (l : Led) (h : Heap) : Prop where
  keep : ∀ b o, Z.h₀.get? b = some o → h.get? b = some o
  nd : (l.map (·.1)).Nodup
  objs : ∀ p ∈ l, Z.h₀.objs.size ≤ p.1 ∧ ∃ ob, h.get? p.1 = some ob ∧ p.2.Is Z.prog Z.w ob
  sent : ∃ a ob, Z.h₀.objs.size ≤ a ∧ h.get? a = some ob
noncomputable def Sat (Z : Amb) (l : Led) (s : Shared) : Prop := ∃ h tk, s = { Z.s₁ with heap := h, toks := tk } ∧ Rel Z l h
noncomputable def TR (Z : Amb) {α β : Type} (A : Around) (t : Sem α) (ab : α → β) (l : Led) (Q : β → Led → Prop) (X : Value → Shared → Prop) : Prop :=
  ∀ s (Q' : α → Shared → Prop), Sat Z l s → (∀ v s' l', Sat Z l' s' → Q (ab v) l' → Q' v s') → wpAny Z.M A t Q' X s
noncomputable def Sb (l' l : Led) : Prop := ∃ m, l'.Perm m ∧ m.Sublist l
inductive AFlow where
  | next | brk | cont
  | ret (v : AV)
noncomputable def erF : Flow → AFlow
  | .next => .next
  | .brk => .brk
  | .cont => .cont
  | .ret v => .ret (er v)
inductive Up1 (a : Addr) (o o' : AObj) : Led → Led → Prop
  | head {r} : Up1 a o o' ((a, o) :: r) ((a, o') :: r)
  | tail {p r r'} : Up1 a o o' r r' → Up1 a o o' (p :: r) (p :: r')
theorem Up1.addrs {a : Addr} {o o' : AObj} {l l' : Led} (h : Up1 a o o' l l') : l'.map (·.1) = l.map (·.1) := by
  induction h with
  | head => rfl
  | tail _ ih => simp only [List.map_cons, ih]
theorem Up1.mem {a : Addr} {o o' : AObj} {l l' : Led} (h : Up1 a o o' l l') : (a, o) ∈ l := by
  induction h with
  | head => exact .head _
  | tail _ ih => exact .tail _ ih
theorem Up1.other {a : Addr} {o o' : AObj} {l l' : Led} (h : Up1 a o o' l l') : (l.map (·.1)).Nodup → ∀ p ∈ l', p = (a, o') ∨ (p ∈ l ∧ p.1 ≠ a) := by
  induction h with
  | head =>
    intro hn p hp
    rcases List.mem_cons.mp hp with rfl | hp
    · exact .inl rfl
    · refine .inr ⟨.tail _ hp, fun e => ?_⟩
      simp only [List.map_cons, List.nodup_cons] at hn
      exact hn.1 (e ▸ List.mem_map_of_mem hp)
  | @tail q r r' h1 ih =>
    intro hn p hp
    simp only [List.map_cons, List.nodup_cons] at hn
    rcases List.mem_cons.mp hp with rfl | hp
    · refine .inr ⟨.head _, fun e => ?_⟩
      exact hn.1 (by rw [e]; exact List.mem_map_of_mem (f := (·.1)) h1.mem)
    · rcases ih hn.2 p hp with h | h
      · exact .inl h
      · exact .inr ⟨.tail _ h.1, h.2⟩
section
variable {Z : Amb} {l l' : Led} {s : Shared}
theorem Sat.sub {l' : Led} (h : Sat Z l s) (hs : l'.Sublist l) : Sat Z l' s := by
  obtain ⟨hp, tk, rfl, R⟩ := h
  exact ⟨hp, tk, rfl, R.keep, R.nd.sublist (hs.map _), fun p hp => R.objs p (hs.subset hp), R.sent⟩
theorem Sat.perm {l' : Led} (h : Sat Z l s) (hs : l'.Perm l) : Sat Z l' s := by
  obtain ⟨hp, tk, rfl, R⟩ := h
  exact ⟨hp, tk, rfl, R.keep, (hs.map _).nodup_iff.mpr R.nd, fun p hp => R.objs p (hs.subset hp), R.sent⟩
theorem Sat.subperm {l' : Led} (h : Sat Z l s) (hs : Sb l' l) : Sat Z l' s := by
  obtain ⟨m, h1, h2⟩ := hs
  exact (h.sub h2).perm h1
theorem Sat.keep (h : Sat Z l s) : ∀ b o, Z.h₀.get? b = some o → s.heap.get? b = some o := by
  obtain ⟨hp, tk, rfl, R⟩ := h; exact R.keep
theorem Sat.K (h : Sat Z l s) : Z.K.In s.heap := Z.X.keeps h.keep
theorem Sat.obj (h : Sat Z l s) {a : Addr} {o : AObj} (hm : (a, o) ∈ l) : Z.h₀.objs.size ≤ a ∧ ∃ ob, s.heap.get? a = some ob ∧ o.Is Z.prog Z.w ob := by
  obtain ⟨hp, tk, rfl, R⟩ := h
  exact R.objs _ hm
theorem Sat.eq (h : Sat Z l s) : s = { Z.s₁ with heap := s.heap, toks := s.toks } := by
  obtain ⟨hp, tk, rfl, R⟩ := h; rfl
theorem Sat.tok (h : Sat Z l s) (tk : Nat) : Sat Z l { s with toks := tk } := by
  obtain ⟨hp, t, rfl, R⟩ := h
  exact ⟨hp, tk, rfl, R⟩
theorem Sat.ext (h : Sat Z l s) {h' : Heap} {tk : Nat} (hk : ∀ b o, s.heap.get? b = some o → h'.get? b = some o) : Sat Z l { s with heap := h', toks := tk } := by
  obtain ⟨hp, t, rfl, R⟩ := h
  refine ⟨h', tk, rfl, fun b o e => hk b o (R.keep b o e), R.nd, fun p hp => ?_, let ⟨a, ob, h1, h2⟩ := R.sent; ⟨a, ob, h1, hk _ _ h2⟩⟩
  obtain ⟨h1, ob, h2, h3⟩ := R.objs p hp
  exact ⟨h1, ob, hk _ _ h2, h3⟩
theorem Sat.size (h : Sat Z l s) : Z.h₀.objs.size ≤ s.heap.objs.size := by
  obtain ⟨hp, t, rfl, R⟩ := h
  obtain ⟨a, ob, h1, h2⟩ := R.sent
  exact Nat.le_of_lt (Nat.lt_of_le_of_lt h1 (Heap.lt_size h2))
theorem Sat.new (h : Sat Z l s) {h' : Heap} {tk : Nat} {a : Addr} {o : AObj} {ob : Obj} (hk : ∀ b o, s.heap.get? b = some o → h'.get? b = some o) (ha : s.heap.objs.size ≤ a) (ho : h'.get? a = some ob) (hi : o.Is Z.prog Z.w ob) : Sat Z ((a, o) :: l) { s with heap := h', toks := tk } := by
  have hz := h.size
  obtain ⟨hp, t, rfl, R⟩ := h
  refine ⟨h', tk, rfl, fun b o e => hk b o (R.keep b o e), ?_, fun p hp => ?_, a, ob, Nat.le_trans hz ha, ho⟩
  · simp only [List.map_cons, List.nodup_cons]
    refine ⟨fun hm => ?_, R.nd⟩
    obtain ⟨p, hp, e⟩ := List.mem_map.mp hm
    obtain ⟨_, ob', h2, _⟩ := R.objs p hp
    exact absurd (Heap.lt_size h2) (Nat.not_lt.mpr (e ▸ ha))
  · rcases List.mem_cons.mp hp with rfl | hp
    · exact ⟨Nat.le_trans hz ha, ob, ho, hi⟩
    · obtain ⟨h1, ob, h2, h3⟩ := R.objs p hp
      exact ⟨h1, ob, hk _ _ h2, h3⟩
theorem Sat.up (h : Sat Z l s) {h' : Heap} {tk : Nat} {a : Addr} {o o' : AObj} {ob : Obj} (U : Up1 a o o' l l') (hk : ∀ b, b ≠ a → ∀ o, s.heap.get? b = some o → h'.get? b = some o) (ho : h'.get? a = some ob) (hi : o'.Is Z.prog Z.w ob) :
    Sat Z l' { s with heap := h', toks := tk } := by
  obtain ⟨hp, t, rfl, R⟩ := h
  have hz := (R.objs _ U.mem).1
  refine ⟨h', tk, rfl, fun b x e => hk b ?_ x (R.keep b x e), U.addrs ▸ R.nd, fun p hp => ?_, a, ob, hz, ho⟩
  · rintro rfl
    exact absurd (Heap.lt_size e) (Nat.not_lt.mpr hz)
  · rcases U.other R.nd p hp with rfl | ⟨h1, h2⟩
    · exact ⟨hz, ob, ho, hi⟩
    · obtain ⟨h3, ob', h4, h5⟩ := R.objs p h1
      exact ⟨h3, ob', hk _ h2 _ h4, h5⟩
end
section
variable {Z : Amb} {α β γ : Type} {A : Around} {l : Led} {X : Value → Shared → Prop}
theorem TR.mono {t : Sem α} {ab : α → β} {Q Q2 : β → Led → Prop} (h : TR Z A t ab l Q X) (hq : ∀ v l', Q v l' → Q2 v l') : TR Z A t ab l Q2 X :=
  fun s Q' hs hQ => h s Q' hs fun v s' l' a b => hQ v s' l' a (hq _ _ b)
theorem TR.sub {t : Sem α} {ab : α → β} {Q : β → Led → Prop} {l2 : Led} (h : TR Z A t ab l2 Q X) (hs : l2.Sublist l) : TR Z A t ab l Q X :=
  fun s Q' h1 hQ => h s Q' (h1.sub hs) hQ
theorem TR.perm {t : Sem α} {ab : α → β} {Q : β → Led → Prop} {l2 : Led} (h : TR Z A t ab l2 Q X) (hs : l2.Perm l) : TR Z A t ab l Q X :=
  fun s Q' h1 hQ => h s Q' (h1.perm hs) hQ
theorem TR.subperm {t : Sem α} {ab : α → β} {Q : β → Led → Prop} {l2 : Led} (h : TR Z A t ab l2 Q X) (hs : Sb l2 l) : TR Z A t ab l Q X :=
  fun s Q' h1 hQ => h s Q' (h1.subperm hs) hQ
theorem TR.pure' {v : α} {ab : α → β} {Q : β → Led → Prop} (h : Q (ab v) l) : TR Z A (pure v) ab l Q X :=
  fun _ _ hs hQ => wpAny_pure (hQ _ _ _ hs h)
theorem TR.raises {t : Sem α} {ab : α → β} {Q : β → Led → Prop} {X2 : Value → Shared → Prop} (h : TR Z A t ab l Q X) (hx : ∀ v s, X v s → X2 v s) : TR Z A t ab l Q X2 :=
  fun s Q' h1 hQ => wpAny_mono (h s Q' h1 hQ) (fun _ _ x => x) hx
end
noncomputable abbrev bmE : List Value := [.type "Exception", .type "BaseException", .type "object"]
theorem FE : ExcBaseFacts "Exception" "Exception.__new__" "Exception.__init__" bmE := PySem.F.excBase_Exception
section
variable {prog : Program} {w : World} {M : Model} {A : Around} {E : Value → Shared → Prop} {R : Result → Shared → Prop} {h : Heap} {g : Array GenState} {d : Drawn} {t : Nat} {os : OsState}
variable {nm q : Str} {C N P : Addr} {bs : List Value} {hdct : Bool} {sn : List Str} {sub : List Value} {ab : Bool} {col : Option Bool} {dd : Option Addr} {k0 k1 k2 k3 k5 : Option Value}
noncomputable abbrev faultObj (nm q : Str) (C N P : Addr) (bs : List Value) (hdct : Bool) (sn : List Str) (sub : List Value) (ab : Bool) (col : Option Bool) (dd : Option Addr) (k0 k1 k2 k3 k5 : Option Value) : Obj :=
  excClassObj nm q C N bs (.ref P :: bmE) hdct sn sub ab col dd k0 k1 k2 k3 k5 "Exception.__new__"
theorem hasE {X : String} : (Value.ref C :: Value.ref P :: bmE).contains (.type X) = bmE.contains (.type X) := by
  rw [List.contains_cons, List.contains_cons]; rfl
theorem fault_check {rest : List Value} {Q : Unit → Shared → Prop} (hC : h.get? C = some (faultObj nm q C N P bs hdct sn sub ab col dd k0 k1 k2 k3 k5))
    (hq : Q () ⟨h, g, d, t, os⟩) : wpAny M A (checkBuiltinCall "Exception.__new__" ⟨.ref C :: rest, []⟩) Q E ⟨h, g, d, t, os⟩ := by
  have hcont : (Value.ref C :: Value.ref P :: bmE).contains (.type "Exception") = true := by rw [hasE]; exact FE.hasB
  have hstar := FE.noStar
  simp only [checkBuiltinCall, FE.newKind, FE.newSplit, FE.newRow]
  repeat (first | refine wpAny_loadPart_at hC ?_ | (refine wpAny_isSubtype_exc hC ?_; rw [hcont]) | refine wpAny_staticBase_exc hC ?_ | refine wpAny_madeBy_exc hC ?_ | simp only [bne_self_eq_false, Bool.false_eq_true, if_false] | wp_step)
  exact hq
theorem fault_new {rest : List Value} (hC : h.get? C = some (faultObj nm q C N P bs hdct sn sub ab col dd k0 k1 k2 k3 k5))
    (hq : R (.ok (.ret (.ref (h.objs.size + 1)))) ⟨(h.push { cls := .type "tuple", data := .seq rest.toArray }).push
      { cls := .ref C, data := .fields #[.ref h.objs.size, .none, .none, .none, .bool false, .none] }, g, d, t, os⟩) (hrest : rest.length ≤ sizeLine) :
    codeAny (model prog w) A (.builtin "Exception.__new__" ⟨.ref C :: rest, []⟩) R ⟨h, g, d, t, os⟩ := by
  have hends := FE.ends
  have hcB : (Value.ref C :: Value.ref P :: bmE).contains (.type "Exception") = true := by rw [hasE]; exact FE.hasB
  have hcA : (Value.ref C :: Value.ref P :: bmE).contains (.type "AttributeError") = false := by rw [hasE]; exact FE.noAttr
  have hcN : (Value.ref C :: Value.ref P :: bmE).contains (.type "NameError") = false := by rw [hasE]; exact FE.noName
  refine codeAny_builtinAt FE.entry ?_
  unfold Builtin.«BaseException.__new__»
  refine PySem.wpAt_bind ?_
  show PySem.wpAt _ _ _ (stack >>= _) _ _ _
  refine PySem.wpAt_bind (PySem.wpAt_stack fun p below => PySem.wpAt_of_wpAny ?_)
  wp_walk
  refine PySem.wpAt_of_wpAny ?_
  rw [FE.owner]
  repeat (first | with_reducible refine wpAny_madeHere_exc FE.canon hC ?_ | with_reducible refine wpAny_loadPart_at hC ?_ | (with_reducible refine wpAny_isSubtype_exc hC ?_; first | rw [hcB] | rw [hcA] | rw [hcN]) | wp_step)
  show R _ _
  rw [Heap.size_push]
  exact hq
theorem fault_typecall {K : Frag} {rest : List Value} {fI : Addr} {Q : Fin → Shared → Prop}
    (hC : h.get? C = some (faultObj nm q C N P bs hdct sn sub ab col dd k0 k1 k2 k3 k5)) (hX : K.In h) (hi : findIn K (.ref C) "__init__" = some (some (.ref fI)))
    (hf : typeIn K (.ref fI) = some (.type "function"))
    (hq : ∀ h' e, Heap.MadeExcOf h h' e (.ref C) rest → h.objs.size ≤ e →
      wpAny (model prog w) A (call (.ref fI) (.ref e :: rest)) (fun r s' => r = .none ∧ Q (.done (.ret (.ref e))) s') E ⟨h', g, d, t, os⟩) (hrest : rest.length ≤ sizeLine) :
    wpAny (model prog w) A (Builtin.«type.__call__» ⟨.ref C :: rest, []⟩) Q E ⟨h, g, d, t, os⟩ := by
  repeat (first | with_reducible refine wpAny_loadPart_at hC ?_ | with_reducible refine wpAny_madeBy_exc hC ?_ | wp_step)
  refine codeAny_call_builtin_code (Code.quiet_builtin _ FE.quiet) (fault_check hC ?_)
  refine fault_new hC ?_ hrest
  show wpAny _ _ _ _ _ _
  have keep : ∀ b o, h.get? b = some o → ((h.push { cls := .type "tuple", data := .seq rest.toArray }).push { cls := .ref C, data := .fields #[.ref h.objs.size, .none, .none, .none, .bool false, .none] }).get? b = some o :=
    fun b o e => Heap.get?_push_of_some _ (Heap.get?_push_of_some _ e)
  have hC₁ := keep _ _ hC
  have hX₁ := hX.keeps keep
  have hget : ((h.push { cls := .type "tuple", data := .seq rest.toArray }).push
      { cls := .ref C, data := .fields #[.ref h.objs.size, .none, .none, .none, .bool false, .none] }).get? (h.objs.size + 1) = some
      { cls := .ref C, data := .fields #[.ref h.objs.size, .none, .none, .none, .bool false, .none] } := by heap_get
  have hcC : (Value.ref C :: Value.ref P :: bmE).contains (.ref C) = true := by simp
  unfold isInstance
  repeat (first | with_reducible refine wpAny_loadPart_at hget ?_ | (with_reducible refine wpAny_isSubtype_exc hC₁ ?_; rw [hcC]) | wp_step)
  show wpAny _ _ (typeLookup (.ref C) _) _ _ _
  refine (looks_findIn hX₁ hi).here ?_
  refine wpAny_holding (wpAny_bind ((bind_fn hX₁ _ hf).here ?_))
  refine (wpAny_bind (wpAny_mono (hq _ (h.objs.size + 1) ⟨keep, Heap.get?_none_of_le (Nat.le_succ _), h.objs.size, hget, Heap.get?_none_of_le (Nat.le_refl _), ?_⟩ (Nat.le_succ _)) (fun r s' hr => ?_) fun _ _ x => x))
  · exact Heap.get?_push_of_some _ (Heap.get?_push_at rfl rfl)
  · obtain ⟨rfl, hQ⟩ := hr
    wp_walk
    exact hQ
theorem fault_call {K : Frag} {rest : List Value} {fI : Addr} {Q : Value → Shared → Prop}
    (hC : h.get? C = some (faultObj nm q C N P bs hdct sn sub ab col dd k0 k1 k2 k3 k5)) (hX : K.In h) (hi : findIn K (.ref C) "__init__" = some (some (.ref fI)))
    (hf : typeIn K (.ref fI) = some (.type "function"))
    (hq : ∀ h' e, Heap.MadeExcOf h h' e (.ref C) rest → h.objs.size ≤ e →
      wpAny (model prog w) (A.under (.builtin "type.__call__" ⟨.ref C :: rest, []⟩)) (call (.ref fI) (.ref e :: rest)) (fun r s' => r = .none ∧ Q (.ref e) s') E ⟨h', g, d, t, os⟩) (hrest : rest.length ≤ sizeLine) :
    wpAny (model prog w) A (call (.ref C) rest) Q E ⟨h, g, d, t, os⟩ := by
  have f1 := tc_lookup
  have f2 := tc_bind (.ref C)
  have hT : (⟨h, g, d, t, os⟩ : Shared).TypeIs (.ref C) "type" := ⟨_, hC, rfl⟩
  refine wpAny_call (codeAny_of_tree ?_)
  show wpAny _ _ (callAny (.ref C) _) _ _ _
  repeat (any_goals (first | assumption | with_reducible refine wpAny_loadPart_at hC ?_ | wp_step))
  refine ⟨rfl, ?_⟩
  refine codeAny_call_builtin_at (Code.quiet_builtin _ (by decide +kernel)) entry_typeCall (wpAny_check_type_call_sub hC (fault_typecall hC hX hi hf (fun h' e hm hle => ?_) hrest))
  exact hq h' e hm hle
end
section
variable {prog : Program} {w : World} {M : Model} {A : Around} {E : Value → Shared → Prop} {R : Result → Shared → Prop} {h : Heap} {g : Array GenState} {d : Drawn} {t : Nat} {os : OsState}
variable {nm q : Str} {C N P : Addr} {bs : List Value} {hdct : Bool} {sn : List Str} {sub : List Value} {ab : Bool} {col : Option Bool} {dd : Option Addr} {k0 k1 k2 k3 k5 : Option Value}
theorem fault_check_init {e : Addr} {oe : Obj} {rest : List Value} {Q : Unit → Shared → Prop}
    (hC : h.get? C = some (faultObj nm q C N P bs hdct sn sub ab col dd k0 k1 k2 k3 k5)) (he : h.get? e = some oe) (hcls : oe.cls = .ref C) (hq : Q () ⟨h, g, d, t, os⟩) :
    wpAny M A (checkBuiltinCall "Exception.__init__" ⟨.ref e :: rest, []⟩) Q E ⟨h, g, d, t, os⟩ := by
  have hcB : (Value.ref C :: Value.ref P :: bmE).contains (.type "Exception") = true := by rw [hasE]; exact FE.hasB
  have hshort := FE.noStar
  simp only [checkBuiltinCall, FE.initKind, FE.initSplit, FE.initRow]
  repeat (first | (with_reducible refine wpAny_loadPart_at he ?_; rw [hcls]) | with_reducible refine wpAny_loadPart_at hC ?_ | (with_reducible refine wpAny_isSubtype_exc hC ?_; rw [hcB]) | wp_step)
  refine wpAny_onRaise ?_
  rw [show ∀ (a b : String) (n : Nat), Bind.check ⟨.positional, "*", "Exception", .self, [⟨"args", .varPos, false⟩]⟩ a b n (List.map (fun x => x.fst) ({ pos := Value.ref e :: rest } : Args).kw) = pure () from
    fun a b n => check_star_args _ _ _ _ _ _]
  exact wpAny_pure hq
theorem fault_init {e tt : Addr} {oe : Obj} {msg : Value} {Q : Value → Shared → Prop}
    (hC : h.get? C = some (faultObj nm q C N P bs hdct sn sub ab col dd k0 k1 k2 k3 k5)) (he : h.get? e = some oe) (hcls : oe.cls = .ref C) (hd : oe.data = .fields #[.ref tt, .none, .none, .none, .bool false, .none])
    (hq : ∀ h', (∀ b o, b ≠ e → h.get? b = some o → h'.get? b = some o) → (∃ oe', h'.get? e = some oe' ∧ oe'.cls = oe.cls ∧ oe'.dict = oe.dict ∧ ∃ t', oe'.data = .fields #[.ref t', .none, .none, .none, .bool false, .none]) → Q .none ⟨h', g, d, t, os⟩) :
    wpAny (model prog w) A (call (.builtin "Exception.__init__") [.ref e, msg]) Q E ⟨h, g, d, t, os⟩ := by
  refine wpAny_call (codeAny_call_builtin FE.init.plain FE.initEntry (fault_check_init hC he hcls ?_))
  wp_walk
  rw [hd]
  have he1 : (h.push { cls := .type "tuple", dict := none, data := .seq [msg].toArray }).get? e = some oe := Heap.get?_push_of_some _ he
  refine wpAny_pure (wpAny_pure ?_)
  refine wpAny_bind (wpAny_setField he1 hd (by show 0 < 6; decide) ?_)
  wp_walk
  refine hq _ (fun b o hb ho => ?_) ⟨_, Heap.get?_update_self _ he1 (Obj.isFreed_of_fields (Obj.data_mapFields hd _)), Obj.cls_mapFields _ _, ?_, _, Obj.data_mapFields hd _⟩
  · exact (Heap.get?_update_other _ _ (Ne.symm hb)).trans (Heap.get?_push_of_some _ ho)
  · unfold Obj.mapFields
    split <;> rfl
theorem fault_osa {K : Frag} {s : Shared} {e : Addr} {oe : Obj} {msg : Value} {name : Str} {tk : Tok} {vs : Array Value} (X : K.In s.heap)
    (hC : s.heap.get? C = some (faultObj nm q C N P bs true sn sub ab col dd k0 k1 k2 k3 k5)) (hm : findIn K (.ref C) name = some none)
    (he : s.heap.get? e = some oe) (hcls : oe.cls = .ref C) (hd : oe.data = .fields vs) (hdi : oe.dict = none)
    (hq : ∀ h' tk, (∀ b o, b ≠ e → s.heap.get? b = some o → h'.get? b = some o) → (∃ oe', h'.get? e = some oe' ∧ oe'.cls = oe.cls ∧ oe'.data = oe.data) → R (.ok (.ret .none)) { s with heap := h', toks := tk }) :
    codeAny (model prog w) A (.call (.builtin "object.__setattr__") ⟨[.ref e, .str name tk, msg], []⟩) R s := by
  have SF := PySem.F.store_Exception
  have I : InstAt s.heap e oe C none := ⟨he, hcls, by unfold notCls; rw [hd], by rw [hdi]; trivial⟩
  have sbt : Looks (model prog w) s.heap (isInstance (.ref e) (.type "object")) true := I.type.andThen (by
    intro A Q E s' hk q
    obtain ⟨hh, g, dr, tk, os⟩ := s'
    refine wpAny_isSubtype_exc (hk _ _ hC) ?_
    rw [hasE]; exact q)
  refine codeAny_call_builtin SF.slot.plain SF.entry (@check_slot (model prog w) _ _ s "object.__setattr__" "object" "__setattr__" (.ref e) [.str name tk, msg] [] _ SF.kind SF.split sbt (SF.args (.ref e) (.str name tk) msg) ?_)
  have hmro : Looks (model prog w) s.heap (mroOf (.ref C)) (.ref C :: .ref P :: bmE) := by
    intro A Q E s' hk q
    obtain ⟨hh, g, dr, tk, os⟩ := s'
    exact wpAny_mroOf_exc (hk _ _ hC) q
  have ref : refuseLoop (.ref e) "__setattr__" (.ref C :: .ref P :: bmE) = pure () := by
    rw [PySem.refuseLoop_ref, PySem.refuseLoop_ref]; exact SF.passes _
  rw [osa_eq, PySem.refuse_eq]
  refine wpAny_bind (wpAny_bind (I.type.here (wpAny_bind (hmro.here ?_))))
  rw [ref]
  refine wpAny_pure (wpAny_bind (I.type.here (wpAny_bind ((looks_findIn X hm).here (wpAny_bind (wpAny_pure ?_))))))
  refine wpAny_bind (wpAny_pure (wpAny_bind (wpAny_bind (wpAny_loadPart he ?_))))
  rw [hcls]
  have hcd : ∀ {Q : ClassData → Shared → Prop} {E : Value → Shared → Prop}, Q { name := nm, bases := bs, mro := .ref C :: .ref P :: bmE, ns := N, qualname := q, hasDict := true, slotNames := sn, subclasses := sub, abstract := ab, collection := col, hasDel := false } s → wpAny (model prog w) A.in1 (classData C) Q E s := fun hq => by
    unfold classData
    exact wpAny_bind (wpAny_load hC (wpAny_pure hq))
  refine wpAny_bind (hcd ?_)
  dsimp only
  rw [hdi, if_neg (by simp), if_neg (by simp [typeHasDict]), hd]
  have hx₁ : (s.heap.push { cls := .type "dict", data := .dict #[] }).get? e = some oe := Heap.get?_push_of_some _ he
  have hxs : e ≠ s.heap.objs.size := Nat.ne_of_lt (Heap.lt_size he)
  refine wpAny_bind (wpAny_alloc' ?_)
  refine wpAny_bind (wpAny_update' hx₁ ?_)
  refine wpAny_pure ?_
  have hgd : ((s.heap.push { cls := .type "dict", data := .dict #[] }).update e fun o => { cls := o.cls, dict := some s.heap.objs.size, data := o.data, slots := o.slots }).get? s.heap.objs.size = some { cls := .type "dict", data := .dict #[] } :=
    (Heap.get?_update_ne _ _ _ _ hxs.symm).trans (Heap.get?_push_at rfl rfl)
  have hnd : ((s.heap.push { cls := .type "dict", data := .dict #[] }).update e fun o => { cls := o.cls, dict := some s.heap.objs.size, data := o.data, slots := o.slots }).Ns s.heap.objs.size (fun _ => none) :=
    ⟨_, #[], _, hgd, rfl, fun e he => absurd he (by simp), fun _ => rfl⟩
  show wpAny _ _ (Builtin.ObjectAttr.storeInDict s.heap.objs.size (.str name tk) name msg) _ _ _
  unfold Builtin.ObjectAttr.storeInDict Builtin.ObjectAttr.newKeyGuard
  refine wpAny_bind (wpAny_pure (wpAny_bind (wpAny_nsSet1 (Heap.Ns1.of_empty hnd) fun h' hn' hs => ?_)))
  obtain ⟨oD, esD, epD, hoD, hdD, hcD⟩ := hn'.count (Within.cons name msg Within.nil)
  refine wpAny_bind (wpAny_lookBehind hoD (by rw [hdD]; exact pastItsLine_dict (Nat.le_trans hcD (by rw [List.length_cons, List.length_nil, sizeLine_eq]; omega))) ?_)
  wp_walk
  refine hq h' _ (fun b ob hbx hb => ?_) ⟨{ cls := oe.cls, dict := some s.heap.objs.size, data := oe.data, slots := oe.slots }, ?_, rfl, rfl⟩
  · exact (hs.2 b (Nat.ne_of_lt (Heap.lt_size hb))).trans ((Heap.get?_update_ne _ _ _ _ hbx).trans (Heap.get?_push_of_some _ hb))
  · refine (hs.2 e hxs).trans (Heap.get?_update_self _ hx₁ ?_)
    obtain ⟨oc, od, odt, osl⟩ := oe
    cases hd; rfl
theorem fault_set {K : Frag} {s : Shared} {e : Addr} {oe : Obj} {msg : Value} {name : Str} {vs : Array Value} {Q : Unit → Shared → Prop} (X : K.In s.heap)
    (hC : s.heap.get? C = some (faultObj nm q C N P bs true sn sub ab col dd k0 k1 k2 k3 k5)) (hs : findIn K (.ref C) "__setattr__" = some (some (.builtin "object.__setattr__"))) (hm : findIn K (.ref C) name = some none)
    (he : s.heap.get? e = some oe) (hcls : oe.cls = .ref C) (hd : oe.data = .fields vs) (hdi : oe.dict = none)
    (hq : ∀ h' tk, (∀ b o, b ≠ e → s.heap.get? b = some o → h'.get? b = some o) → (∃ oe', h'.get? e = some oe' ∧ oe'.cls = oe.cls ∧ oe'.data = oe.data) → Q () { s with heap := h', toks := tk }) :
    wpAny (model prog w) A (setAttr (.ref e) name msg) Q E s := by
  have I : InstAt s.heap e oe C none := ⟨he, hcls, by unfold notCls; rw [hd], by rw [hdi]; trivial⟩
  exact set_plain X I hs (fault_osa (s := { s with toks := s.toks + 1 }) X hC hm he hcls hd hdi hq)
theorem fault_raise {env : Env} {s : Shared} {x : Sem Value} {Q : Flow → Shared → Prop} (hh : A.handled = none)
    (h : wpAny M A x (fun v s₁ => ∃ e oe t, v = .ref e ∧ s₁.heap.get? C = some (faultObj nm q C N P bs hdct sn sub ab col dd k0 k1 k2 k3 k5) ∧ s₁.heap.get? e = some oe ∧ oe.cls = .ref C ∧
      oe.data = .fields #[.ref t, .none, .none, .none, .bool false, .none] ∧ E (.ref e) s₁) E s) :
    wpAny M A (raiseStmt env (some x) none) Q E s := by
  have hcB : (Value.ref C :: Value.ref P :: bmE).contains (.type "BaseException") = true := by rw [hasE]; exact FE.hasBase
  unfold raiseStmt
  refine wpAny_bind (wpAny_mono h (fun v s₁ h₁ => ?_) fun _ _ x => x)
  obtain ⟨e, oe, t, rfl, hC, he, hcls, hd, hE⟩ := h₁
  obtain ⟨hp, g, d, tk, os⟩ := s₁
  repeat (first | (with_reducible refine wpAny_loadPart_at he ?_; rw [hcls]) | with_reducible refine wpAny_loadPart_at hC ?_ | (with_reducible refine wpAny_isSubtype_exc hC ?_; rw [hcB]) | wp_step)
  rw [hd]
  refine wpAny_pure (wpAny_pure ?_)
  rw [if_neg (show ¬ ((#[Value.ref t, Value.none, Value.none, Value.none, Value.bool false, Value.none][1] != Value.none) = true) from by simp)]
  exact wpAny_pure (wpAny_raiseNew_none hh hE)
end
structure EnvIs (env : Env) (L : Addr) (names : List (Str × NameKind)) (cells : List (Str × Addr)) : Prop where
  kind : env.scope.kind = .function
  loc : env.locals = L
  glob : env.globals = mainGlobals
  blt : env.builtins = builtinsNs
  knd : ∀ x ∈ names, env.kindOf x.1 = some x.2
  cls : ∀ x ∈ cells, env.cells.lookup x.1 = some x.2
noncomputable def Room (A : Around) (k : Nat) : Prop := A.handled = none ∧ A.depth + k < recursionLimit ∧ A.units + 8 * k + 400 < cLine
noncomputable abbrev AR (Z : Amb) (A : Around) (env : Env) (pos : Pos) (es : List Expr) (l : Led) (Q : List AV → Led → Prop) (X : Value → Shared → Prop) : Prop :=
  TR Z A (spliced (backTo pos (starEach es env))) (List.map er) l Q X
noncomputable abbrev EV (Z : Amb) (A : Around) (env : Env) (e : Expr) (l : Led) (Q : AV → Led → Prop) (X : Value → Shared → Prop) : Prop := TR Z A (eval e env) er l Q X
noncomputable abbrev TV (Z : Amb) (A : Around) (env : Env) (e : Expr) (l : Led) (Q : Bool → Led → Prop) (X : Value → Shared → Prop) : Prop := TR Z A (isTrue e env (eval e env)) id l Q X
noncomputable abbrev SV (Z : Amb) (A : Around) (env : Env) (ss : List Stmt) (l : Led) (Q : AFlow → Led → Prop) (X : Value → Shared → Prop) : Prop := TR Z A (execs ss env) erF l Q X
noncomputable abbrev S1 (Z : Amb) (A : Around) (env : Env) (s : Stmt) (l : Led) (Q : AFlow → Led → Prop) (X : Value → Shared → Prop) : Prop := TR Z A (exec s env) erF l Q X
noncomputable def O2 (Z : Amb) (A : Around) (f : Value → Value → Sem Value) (a b : AV) (l : Led) (Q : AV → Led → Prop) (X : Value → Shared → Prop) : Prop :=
  ∀ va vb, er va = a → er vb = b → TR Z A (f va vb) er l Q X
noncomputable def CL (Z : Amb) (A : Around) (f : Value) (args : List AV) (l : Led) (Q : AV → Led → Prop) (X : Value → Shared → Prop) : Prop :=
  ∀ vs, vs.map er = args → TR Z A (call f vs) er l Q X
inductive IsB (Q : Bool → Led → Prop) (v : AV) (l : Led) : Prop
  | mk (c : Bool) (h : v = .bool c) (q : Q c l)
inductive IsI (Q : Int → Led → Prop) (v : AV) (l : Led) : Prop
  | mk (i : Int) (h : v = .int i) (q : Q i l)
inductive IsR (K : Addr → Led → Prop) (v : AV) (l : Led) : Prop
  | mk (a : Addr) (h : v = .ref a) (q : K a l)
noncomputable def CP (Z : Amb) (A : Around) (op : CmpOp) (a b : AV) (l : Led) (Q : Bool → Led → Prop) (X : Value → Shared → Prop) : Prop :=
  O2 Z A (compareOp op) a b l (IsB Q) X
noncomputable def ST (Z : Amb) (A : Around) (t : Value → Sem Unit) (a : AV) (l : Led) (Q : Led → Prop) (X : Value → Shared → Prop) : Prop :=
  ∀ v, er v = a → TR Z A (t v) id l (fun _ l' => Q l') X
theorem er_int {v : Value} {i : Int} (h : er v = .int i) : ∃ t, v = .int i t := by
  cases v <;> simp_all [er]
theorem er_str {v : Value} {i : Str} (h : er v = .str i) : ∃ t, v = .str i t := by
  cases v <;> simp_all [er]
theorem er_bool {v : Value} {b : Bool} (h : er v = .bool b) : v = .bool b := by
  cases v <;> simp_all [er]
theorem er_none {v : Value} (h : er v = .none) : v = .none := by
  cases v <;> simp_all [er]
theorem er_ref {v : Value} {a : Addr} (h : er v = .ref a) : v = .ref a := by
  cases v <;> simp_all [er]
section
variable {Z : Amb} {A : Around} {env : Env} {l : Led} {X : Value → Shared → Prop} {L : Addr} {names : List (Str × NameKind)} {cells : List (Str × Addr)}
theorem r_int {i : Int} {k : Nat} {pos : Pos} {Q : AV → Led → Prop} (h : Q (.int i) l) : EV Z A env (.Constant (.int i) k pos) l Q X :=
  fun _ _ hs hQ => wpAny_Constant_int (hQ _ _ _ (hs.tok _) h)
theorem r_str {x : Str} {k : Nat} {pos : Pos} {Q : AV → Led → Prop} (h : Q (.str x) l) : EV Z A env (.Constant (.str x) k pos) l Q X :=
  fun _ _ hs hQ => wpAny_Constant_str (hQ _ _ _ (hs.tok _) h)
theorem r_none {k : Nat} {pos : Pos} {Q : AV → Led → Prop} (h : Q .none l) : EV Z A env (.Constant .none k pos) l Q X :=
  fun _ _ hs hQ => wpAny_Constant_none (hQ _ _ _ hs h)
theorem r_bool {b : Bool} {k : Nat} {pos : Pos} {Q : AV → Led → Prop} (h : Q (.bool b) l) : EV Z A env (.Constant (.bool b) k pos) l Q X :=
  fun _ _ hs hQ => wpAny_Constant_bool (hQ _ _ _ hs h)
theorem look_of_mem {m : List (Str × Option AV)} (hn : (m.map (·.1)).Nodup) {x : Str} {v : Option AV} (h : (x, v) ∈ m) : m.lookup x = some v := by
  induction m with
  | nil => cases h
  | cons p r ih =>
    obtain ⟨y, u⟩ := p
    simp only [List.map_cons, List.nodup_cons] at hn
    rw [List.lookup_cons]
    rcases List.mem_cons.mp h with e | h
    · cases e; simp
    · have : x ≠ y := fun e => hn.1 (e ▸ List.mem_map_of_mem (f := (·.1)) h)
      rw [beq_false_of_ne this]
      exact ih hn.2 h
theorem r_name {x : Str} {pos : Pos} {m : List (Str × Option AV)} {v : AV} {Q : AV → Led → Prop} (hE : EnvIs env L names cells) (hk : (x, NameKind.local) ∈ names) (hL : (L, AObj.frame m) ∈ l) (hv : (x, some v) ∈ m) (h : Q v l)
    (hd : (x == ("__debug__" : Str)) = false := by decide) : EV Z A env (.Name x pos) l Q X := by
  intro s Q' hs hQ
  obtain ⟨_, ob, ho, hn, es, ep, hd', hsk, hl⟩ := hs.obj hL
  have e := hl x
  rw [look, look_of_mem hn hv] at e
  obtain ⟨u, hu, rfl⟩ := Option.map_eq_some_iff.mp e
  exact wpAny_Name (wpAny_loadName_local hE.kind (hE.knd _ hk) (hE.loc ▸ ⟨ob, es, ep, ho, hd', hsk, fun _ => rfl⟩) hu (hQ _ _ _ hs h)) hd
theorem r_cellname {x : Str} {pos : Pos} {c : Addr} {v : AV} {Q : AV → Led → Prop} (hE : EnvIs env L names cells) (hk : (x, NameKind.cell) ∈ names) (hc : (x, c) ∈ cells) (hL : (c, AObj.cell (some v)) ∈ l) (h : Q v l)
    (hd : (x == ("__debug__" : Str)) = false := by decide) : EV Z A env (.Name x pos) l Q X := by
  intro s Q' hs hQ
  obtain ⟨_, ob, ho, cv, hd', e⟩ := hs.obj hL
  obtain ⟨u, rfl, rfl⟩ := Option.map_eq_some_iff.mp e
  exact wpAny_Name (wpAny_loadName_cell hE.kind (hE.knd _ hk) (hE.cls _ hc) ⟨ob, ho, hd'⟩ (hQ _ _ _ hs h)) hd
theorem r_glob {x : Str} {pos : Pos} {a : Addr} {Q : AV → Led → Prop} (hE : EnvIs env L names cells) (hk : (x, NameKind.globalImplicit) ∈ names) (hv : Z.mg x = some (.ref a)) (h : Q (.ref a) l)
    (hd : (x == ("__debug__" : Str)) = false := by decide) : EV Z A env (.Name x pos) l Q X := by
  intro s Q' hs hQ
  exact Name_function_global hE.kind (hE.knd _ hk) (loadGlobal_global (hE.glob ▸ Z.T.g.keeps hs.keep) hv (hQ _ _ _ hs h)) hd
theorem r_blt {x : Str} {pos : Pos} {v : Value} {Q : AV → Led → Prop} (hE : EnvIs env L names cells) (hk : (x, NameKind.globalImplicit) ∈ names) (hm : Z.mg x = none) (hv : bootBuiltins x = some v) (h : Q (er v) l)
    (hn : x ≠ "__name__" := by decide) (hd : (x == ("__debug__" : Str)) = false := by decide) : EV Z A env (.Name x pos) l Q X := by
  intro s Q' hs hQ
  exact Name_function_global hE.kind (hE.knd _ hk) (loadGlobal_builtin (hE.glob ▸ Z.T.g.keeps hs.keep) hm (hE.blt ▸ Z.T.b.keeps hs.keep) ((Z.T.builtins x hn).trans hv) (hQ _ _ _ hs h)) hd
theorem r_binop {a b : Expr} {op : Operator} {pos : Pos} {Q : AV → Led → Prop} (h : EV Z A env a l (fun va l1 => EV Z A env b l1 (fun vb l2 => O2 Z A (binaryOp op) va vb l2 Q X) X) X) : EV Z A env (.BinOp a op b pos) l Q X :=
  fun s Q' hs hQ => wpAny_BinOp (h s _ hs fun va s1 l1 h1 g1 => g1 s1 _ h1 fun vb s2 l2 h2 g2 => g2 va vb rfl rfl s2 _ h2 hQ)
theorem r_cmp {a b : Expr} {op : CmpOp} {pos : Pos} {Q : AV → Led → Prop} (h : EV Z A env a l (fun va l1 => EV Z A env b l1 (fun vb l2 => CP Z A op va vb l2 (fun c => Q (.bool c)) X) X) X)
    (hm : behindInMarks op b = false := by with_unfolding_all rfl) : EV Z A env (.Compare a [op] [b] pos) l Q X :=
  fun s Q' hs hQ => wpAny_Compare1 (h s _ hs fun va s1 l1 h1 g1 => g1 s1 _ h1 fun vb s2 l2 h2 g2 => g2 va vb rfl rfl s2 _ h2 fun v s3 l3 h3 g3 => by
    obtain ⟨c, hc, g⟩ := g3
    rw [er_bool hc]
    exact hQ (.bool c) _ _ h3 g) hm
theorem t_cmp {a b : Expr} {op : CmpOp} {pos : Pos} {Q : Bool → Led → Prop} (h : EV Z A env a l (fun va l1 => EV Z A env b l1 (fun vb l2 => CP Z A op va vb l2 Q X) X) X)
    (hm : behindInMarks op b = false := by with_unfolding_all rfl) : TV Z A env (.Compare a [op] [b] pos) l Q X :=
  fun s Q' hs hQ => wpAny_isTrue_Compare1 (h s _ hs fun va s1 l1 h1 g1 => g1 s1 _ h1 fun vb s2 l2 h2 g2 => g2 va vb rfl rfl s2 _ h2 fun v s3 l3 h3 g3 => by
    obtain ⟨c, hc, g⟩ := g3
    rw [er_bool hc]
    exact wpAny_truthy_bool (hQ _ _ _ h3 g)) hm
theorem t_not {a : Expr} {pos : Pos} {Q : Bool → Led → Prop} (h : TV Z A env a l (fun b => Q (!b)) X) : TV Z A env (.UnaryOp .Not a pos) l Q X :=
  fun s Q' hs hQ => wpAny_isTrue_Not (h s _ hs fun b s1 l1 h1 g1 => hQ (!b) _ _ h1 g1)
theorem t_call {f : Expr} {args : List Expr} {kw : List Keyword} {pos : Pos} {Q : Bool → Led → Prop} (h : EV Z A env (.Call f args kw pos) l (IsB Q) X) : TV Z A env (.Call f args kw pos) l Q X :=
  fun s Q' hs hQ => wpAny_isTrue_value (h s _ hs fun v s1 l1 h1 g1 => by
    obtain ⟨c, hc, g⟩ := g1
    rw [er_bool hc]
    exact wpAny_truthy_bool (hQ _ _ _ h1 g))
theorem t_name {x : Str} {pos : Pos} {Q : Bool → Led → Prop} (h : EV Z A env (.Name x pos) l (IsB Q) X) : TV Z A env (.Name x pos) l Q X :=
  fun s Q' hs hQ => wpAny_isTrue_value (h s _ hs fun v s1 l1 h1 g1 => by
    obtain ⟨c, hc, g⟩ := g1
    rw [er_bool hc]
    exact wpAny_truthy_bool (hQ _ _ _ h1 g))
theorem t_and2 {a b : Expr} {pos : Pos} {Q : Bool → Led → Prop} (h : TV Z A env a l (fun x l1 => (x = true → TV Z A env b l1 Q X) ∧ (x = false → Q false l1)) X) : TV Z A env (.BoolOp .And [a, b] pos) l Q X :=
  fun s Q' hs hQ => wpAny_isTrue_BoolOp (wpAny_allTrue_And_cons (h s _ hs fun x s1 l1 h1 g1 => by
    cases x with
    | true => exact wpAny_allTrue_And_cons (g1.1 rfl s1 _ h1 fun y s2 l2 h2 g2 => by
        cases y with
        | true => exact wpAny_allTrue_And_nil (hQ _ _ _ h2 g2)
        | false => exact hQ _ _ _ h2 g2)
    | false => exact hQ _ _ _ h1 (g1.2 rfl)))
theorem t_and3 {a b c : Expr} {pos : Pos} {Q : Bool → Led → Prop} (h : TV Z A env a l (fun x l1 => (x = true → TV Z A env b l1 (fun y l2 => (y = true → TV Z A env c l2 Q X) ∧ (y = false → Q false l2)) X) ∧ (x = false → Q false l1)) X) : TV Z A env (.BoolOp .And [a, b, c] pos) l Q X :=
  fun s Q' hs hQ => wpAny_isTrue_BoolOp (wpAny_allTrue_And_cons (h s _ hs fun x s1 l1 h1 g1 => by
    cases x with
    | true => exact wpAny_allTrue_And_cons (g1.1 rfl s1 _ h1 fun y s2 l2 h2 g2 => by
        cases y with
        | true => exact wpAny_allTrue_And_cons (g2.1 rfl s2 _ h2 fun y s2 l2 h2 g2 => by
            cases y with
            | true => exact wpAny_allTrue_And_nil (hQ _ _ _ h2 g2)
            | false => exact hQ _ _ _ h2 g2)
        | false => exact hQ _ _ _ h2 (g2.2 rfl))
    | false => exact hQ _ _ _ h1 (g1.2 rfl)))
theorem t_or2 {a b : Expr} {pos : Pos} {Q : Bool → Led → Prop} (h : TV Z A env a l (fun x l1 => (x = false → TV Z A env b l1 Q X) ∧ (x = true → Q true l1)) X) : TV Z A env (.BoolOp .Or [a, b] pos) l Q X :=
  fun s Q' hs hQ => wpAny_isTrue_BoolOp (wpAny_allTrue_Or_cons (h s _ hs fun x s1 l1 h1 g1 => by
    cases x with
    | false => exact wpAny_allTrue_Or_cons (g1.1 rfl s1 _ h1 fun y s2 l2 h2 g2 => by
        cases y with
        | false => exact wpAny_allTrue_Or_nil (hQ _ _ _ h2 g2)
        | true => exact hQ _ _ _ h2 g2)
    | true => exact hQ _ _ _ h1 (g1.2 rfl)))
theorem r_or2 {a b : Expr} {pos : Pos} {Q : AV → Led → Prop} (h : EV Z A env a l (IsB fun x l1 => (x = false → EV Z A env b l1 Q X) ∧ (x = true → Q (.bool true) l1)) X) : EV Z A env (.BoolOp .Or [a, b] pos) l Q X :=
  fun s Q' hs hQ => wpAny_Or2 (h s _ hs fun v s1 l1 h1 g1 => by
    obtain ⟨x, hx, g2, g3⟩ := g1
    rw [er_bool hx]
    refine wpAny_truthy_bool ?_
    cases x with
    | false => exact g2 rfl s1 _ h1 hQ
    | true => exact hQ (.bool true) _ _ h1 (g3 rfl))
theorem r_ifexp {t b o : Expr} {pos : Pos} {Q : AV → Led → Prop} (h : TV Z A env t l (fun x l1 => (x = true → EV Z A env b l1 Q X) ∧ (x = false → EV Z A env o l1 Q X)) X) : EV Z A env (.IfExp t b o pos) l Q X :=
  fun s Q' hs hQ => wpAny_IfExp (h s _ hs fun x s1 l1 h1 g1 => by
    cases x with
    | true => exact g1.1 rfl s1 _ h1 hQ
    | false => exact g1.2 rfl s1 _ h1 hQ)
theorem a_nil {pos : Pos} {Q : List AV → Led → Prop} (h : Q [] l) : AR Z A env pos [] l Q X := fun s Q' hs hQ => Calls.spliced_nil (hQ [] _ _ hs h)
theorem a_cons {pos : Pos} {e : Expr} {es : List Expr} {Q : List AV → Led → Prop} (h : EV Z A env e l (fun v l1 => AR Z A env pos es l1 (fun vs l2 => Q (v :: vs) l2) X) X)
    (he : starEach (e :: es) env = (false, eval e env) :: starEach es env := by rfl) : AR Z A env pos (e :: es) l Q X := by
  intro s Q' hs hQ
  rw [he]
  exact Calls.spliced_cons (h s _ hs fun v s1 l1 h1 g1 => g1 s1 _ h1 fun vs s2 l2 h2 g2 => hQ (v :: vs) _ _ h2 g2)
inductive NewK (o : List AV → AObj) (Q : AV → Led → Prop) (vs : List AV) (l : Led) : Prop
  | mk (hz : vs.length ≤ 1000) (q : ∀ a, Q (.ref a) ((a, o vs) :: l))
theorem r_list {es : List Expr} {pos : Pos} {Q : AV → Led → Prop} (h : AR Z A env pos es l (NewK .list Q) X) : EV Z A env (.List es pos) l Q X := by
  intro s Q' hs hQ
  refine wpAny_List (h s _ hs fun vs s1 l1 h1 g1 => ⟨?_, hQ (.ref _) _ ((_, .list (vs.map er)) :: l1) ?_ (NewK.rec (fun _ q => q _) g1)⟩)
  · obtain ⟨this, _⟩ := g1
    rw [List.length_map] at this
    exact Nat.le_trans this (by decide)
  · have := h1.new (h' := s1.heap.push { cls := .type "list", data := .seq vs.toArray }) (tk := s1.toks) (a := s1.heap.objs.size) (o := .list (vs.map er)) (fun b o e => Heap.get?_push_of_some _ e) (Nat.le_refl _) (Heap.get?_push_size _ rfl) ⟨vs.toArray, 0, rfl, by simp⟩
    exact this
theorem r_tuple {es : List Expr} {k : Nat} {pos : Pos} {Q : AV → Led → Prop} (h : AR Z A env pos es l (NewK .tuple Q) X) : EV Z A env (.Tuple es k pos) l Q X := by
  intro s Q' hs hQ
  refine wpAny_Tuple (h s _ hs fun vs s1 l1 h1 g1 => ⟨?_, hQ (.ref _) _ ((_, .tuple (vs.map er)) :: l1) ?_ (NewK.rec (fun _ q => q _) g1)⟩)
  · obtain ⟨this, _⟩ := g1
    rw [List.length_map] at this
    exact Nat.le_trans this (by decide)
  · have := h1.new (h' := s1.heap.push { cls := .type "tuple", data := .seq vs.toArray }) (tk := s1.toks) (a := s1.heap.objs.size) (o := .tuple (vs.map er)) (fun b o e => Heap.get?_push_of_some _ e) (Nat.le_refl _) (Heap.get?_push_size _ rfl) ⟨vs.toArray, 0, rfl, by simp⟩
    exact this
theorem s_nil {Q : AFlow → Led → Prop} (h : Q .next l) : SV Z A env [] l Q X := fun s Q' hs hQ => wpAny_execs_nil (hQ .next _ _ hs h)
noncomputable def thenS (Z : Amb) (A : Around) (env : Env) (rest : List Stmt) (Q : AFlow → Led → Prop) (X : Value → Shared → Prop) : AFlow → Led → Prop
  | .next, l => SV Z A env rest l Q X
  | f, l => Q f l
theorem s_cons {st : Stmt} {rest : List Stmt} {Q : AFlow → Led → Prop} (h : S1 Z A env st l (thenS Z A env rest Q X) X) : SV Z A env (st :: rest) l Q X :=
  fun s Q' hs hQ => wpAny_execs_cons (h s _ hs fun f s1 l1 h1 g1 => by
    cases f with
    | next => exact g1 s1 _ h1 hQ
    | brk => exact hQ .brk _ _ h1 g1
    | cont => exact hQ .cont _ _ h1 g1
    | ret v => exact hQ (.ret v) _ _ h1 g1)
theorem s_if {t : Expr} {b o : List Stmt} {pos : Pos} {Q : AFlow → Led → Prop} (h : TV Z A env t l (fun x l1 => (x = true → SV Z A env b l1 Q X) ∧ (x = false → SV Z A env o l1 Q X)) X) : S1 Z A env (.If t b o pos) l Q X :=
  fun s Q' hs hQ => wpAny_If (h s _ hs fun x s1 l1 h1 g1 => by
    cases x with
    | true => exact g1.1 rfl s1 _ h1 hQ
    | false => exact g1.2 rfl s1 _ h1 hQ)
theorem s_ret {e : Expr} {pos : Pos} {Q : AFlow → Led → Prop} (h : EV Z A env e l (fun v => Q (.ret v)) X) : S1 Z A env (.Return (some e) pos) l Q X :=
  fun s Q' hs hQ => wpAny_Return_some (h s _ hs fun v s1 l1 h1 g1 => hQ (.ret v) _ _ h1 g1)
theorem EnvIs.quiet (hE : EnvIs env L names cells) : interactive env = false := by
  unfold interactive; rw [hE.kind]; rfl
theorem s_expr {e : Expr} {pos : Pos} {Q : AFlow → Led → Prop} (hE : EnvIs env L names cells) (h : EV Z A env e l (fun _ => Q .next) X) (hs : swapsWith e none pos.line env = pure false := by rfl) : S1 Z A env (.Expr e pos) l Q X :=
  fun s Q' h0 hQ => wpAny_Expr_any (h s _ h0 fun v s1 l1 h1 g1 => hQ .next _ _ h1 g1) hE.quiet hs
theorem s_assign {x : Str} {px pos : Pos} {e : Expr} {Q : AFlow → Led → Prop} (h : EV Z A env e l (fun v l1 => ST Z A (storeName env x) v l1 (Q .next) X) X)
    (hs : swapsWith e (some (.Name x px)) pos.line env = pure false := by rfl) : S1 Z A env (.Assign [.Name x px] e pos) l Q X :=
  fun s Q' h0 hQ => wpAny_Assign_Name (h s _ h0 fun v s1 l1 h1 g1 => g1 v rfl s1 _ h1 fun _ s2 l2 h2 g2 => hQ .next _ _ h2 g2) hs
theorem s_setattr {o e : Expr} {x : Str} {px pos : Pos} {Q : AFlow → Led → Prop} (h : EV Z A env e l (fun v l1 => EV Z A env o l1 (fun ov l2 => ∀ vo, er vo = ov → ST Z A (setAttr vo x) v l2 (Q .next) X) X) X)
    (hs : swapsWith e (some (.Attribute o x px)) pos.line env = pure false := by rfl) : S1 Z A env (.Assign [.Attribute o x px] e pos) l Q X :=
  fun s Q' h0 hQ => plainObj_wpAny_Assign_Attribute (h s _ h0 fun v s1 l1 h1 g1 => g1 s1 _ h1 fun vo s2 l2 h2 g2 => g2 vo rfl v rfl s2 _ h2 fun _ s3 l3 h3 g3 => hQ .next _ _ h3 g3) hs
theorem s_setitem {o i e : Expr} {px pos : Pos} {Q : AFlow → Led → Prop} (h : EV Z A env e l (fun v l1 => EV Z A env o l1 (fun ov l2 => EV Z A env i l2 (fun iv l3 => ∀ vo vi, er vo = ov → er vi = iv → ST Z A (setItem vo vi) v l3 (Q .next) X) X) X) X)
    (hs : swapsWith e (some (.Subscript o i px)) pos.line env = pure false := by rfl) : S1 Z A env (.Assign [.Subscript o i px] e pos) l Q X :=
  fun s Q' h0 hQ => wpAny_Assign_Subscript (h s _ h0 fun v s1 l1 h1 g1 => g1 s1 _ h1 fun vo s2 l2 h2 g2 => g2 s2 _ h2 fun vi s3 l3 h3 g3 => g3 vo vi rfl rfl v rfl s3 _ h3 fun _ s4 l4 h4 g4 => hQ .next _ _ h4 g4) hs
end
inductive FSet (x : Str) (v : AV) : List (Str × Option AV) → List (Str × Option AV) → Prop
  | head {u r} : FSet x v ((x, u) :: r) ((x, some v) :: r)
  | tail {p r r'} : FSet x v r r' → FSet x v (p :: r) (p :: r')
theorem FSet.keys {x : Str} {v : AV} {m m' : List (Str × Option AV)} (h : FSet x v m m') : m'.map (·.1) = m.map (·.1) := by
  induction h with
  | head => rfl
  | tail _ ih => simp only [List.map_cons, ih]
theorem FSet.mem {x : Str} {v : AV} {m m' : List (Str × Option AV)} (h : FSet x v m m') : x ∈ m.map (·.1) := by
  induction h with
  | head => exact .head _
  | tail _ ih => exact .tail _ ih
theorem FSet.look {x : Str} {v : AV} {m m' : List (Str × Option AV)} (h : FSet x v m m') : (m.map (·.1)).Nodup → ∀ y, look m' y = if y = x then some v else look m y := by
  induction h with
  | head =>
    intro hn y
    unfold Mine.look
    by_cases e : y = x
    · subst e; simp
    · simp only [List.lookup_cons, beq_false_of_ne e, if_neg e]
  | @tail p r r' h1 ih =>
    intro hn y
    simp only [List.map_cons, List.nodup_cons] at hn
    obtain ⟨z, u⟩ := p
    unfold Mine.look at ih ⊢
    by_cases e : y = z
    · subst e
      have : y ≠ x := fun e => hn.1 (e ▸ h1.mem)
      simp [this]
    · simp only [List.lookup_cons, beq_false_of_ne e]
      exact ih hn.2 y
section
variable {Z : Amb} {A : Around} {env : Env} {l l' : Led} {X : Value → Shared → Prop} {L : Addr} {names : List (Str × NameKind)} {cells : List (Str × Addr)}
theorem st_local {x : Str} {v : AV} {m m' : List (Str × Option AV)} {Q : Led → Prop} (hE : EnvIs env L names cells) (hk : (x, NameKind.local) ∈ names) (F : FSet x v m m') (U : Up1 L (.frame m) (.frame m') l l') (h : Q l') :
    ST Z A (storeName env x) v l Q X := by
  rintro u rfl s Q' hs hQ
  obtain ⟨_, ob, ho, hn, es, ep, hd', hsk, hl⟩ := hs.obj U.mem
  refine wpAny_storeName_local (m := nsFind es) (hE.knd _ hk) (hE.loc ▸ ⟨ob, es, ep, ho, hd', hsk, fun _ => rfl⟩) (fun h' hN hB => ?_) (by
    show (env.scope.kind == .class || (env.scope.kind == .module && env.locals != env.globals)) = false
    rw [hE.kind]; rfl)
  rw [hE.loc] at hN hB
  obtain ⟨o2, es2, ep2, ho2, hd2, hsk2, hl2⟩ := hN
  refine hQ _ _ l' (hs.up U (fun b hb o e => (hB.2 b hb).trans e) ho2 ⟨F.keys ▸ hn, es2, ep2, hd2, hsk2, fun y => ?_⟩) h
  rw [hl2, F.look hn]
  by_cases e : y = x
  · simp [e]
  · simp only [if_neg e]; exact hl y
theorem st_cell {x : Str} {v : AV} {c : Addr} {v₀ : Option AV} {Q : Led → Prop} (hE : EnvIs env L names cells) (hk : (x, NameKind.cell) ∈ names) (hc : (x, c) ∈ cells) (U : Up1 c (.cell v₀) (.cell (some v)) l l') (h : Q l') :
    ST Z A (storeName env x) v l Q X := by
  rintro u rfl s Q' hs hQ
  obtain ⟨_, ob, ho, cv, hd', e⟩ := hs.obj U.mem
  refine wpAny_storeName_cell hE.kind (hE.knd _ hk) (hE.cls _ hc) ⟨ob, ho, hd'⟩ (fun h' hN hB => ?_)
  obtain ⟨o2, ho2, hd2⟩ := hN
  exact hQ _ _ l' (hs.up (tk := s.toks) U (fun b hb o e => (hB.2 b hb).trans e) ho2 ⟨some u, hd2, rfl⟩) h
theorem backTo_any {pos : Pos} {e : Expr} {es : List Expr} (he : starEach (e :: es) env = (false, eval e env) :: starEach es env) (h : (backTo pos (starEach es env)).any (·.1) = false) : (backTo pos (starEach (e :: es) env)).any (·.1) = false := by
  rw [he]; exact h
theorem r_call0 {x : Str} {np pos : Pos} {a : Addr} {Q : AV → Led → Prop} (hE : EnvIs env L names cells) (hk : (x, NameKind.globalImplicit) ∈ names) (hv : Z.mg x = some (.ref a)) (hf : keepIn Z.K (.ref a) = true)
    (h : CL Z A (.ref a) [] l Q X) (hd : (x == ("__debug__" : Str)) = false := by decide) : EV Z A env (.Call (.Name x np) [] [] pos) l Q X := by
  intro s Q' hs hQ
  refine wpAny_Call_ofName (Name_function_global hE.kind (hE.knd _ hk) (loadGlobal_global (hE.glob ▸ Z.T.g.keeps hs.keep) hv ?_) hd)
  exact callWith_K0 hs.K hf (h [] rfl s Q' hs hQ)
theorem r_call {x : Str} {np pos : Pos} {e : Expr} {r : List Expr} {a : Addr} {Q : AV → Led → Prop} (hE : EnvIs env L names cells) (hk : (x, NameKind.globalImplicit) ∈ names) (hv : Z.mg x = some (.ref a)) (hf : keepIn Z.K (.ref a) = true)
    (h : AR Z A env pos (e :: r) l (fun vs l1 => CL Z A (.ref a) vs l1 Q X) X) (hd : (x == ("__debug__" : Str)) = false := by decide)
    (h1 : starEach (e :: r) env = (false, eval e env) :: starEach r env := by rfl) (h2 : (backTo pos (starEach r env)).any (·.1) = false := by rfl) :
    EV Z A env (.Call (.Name x np) (e :: r) [] pos) l Q X := by
  intro s Q' hs hQ
  refine wpAny_Call_ofName (Name_function_global hE.kind (hE.knd _ hk) (loadGlobal_global (hE.glob ▸ Z.T.g.keeps hs.keep) hv ?_) hd)
  exact callWith_K hs.K hf (h s _ hs fun vs s1 l1 h1 g1 => ⟨h1.K, g1 vs rfl s1 _ h1 hQ⟩) h1 h2
theorem r_callb {x : Str} {np pos : Pos} {e : Expr} {r : List Expr} {id : String} {Q : AV → Led → Prop} (hE : EnvIs env L names cells) (hk : (x, NameKind.globalImplicit) ∈ names) (hm : Z.mg x = none) (hv : bootBuiltins x = some (.builtin id))
    (h : AR Z A env pos (e :: r) l (fun vs l1 => CL Z A (.builtin id) vs l1 Q X) X) (hn : x ≠ "__name__" := by decide) (hd : (x == ("__debug__" : Str)) = false := by decide)
    (h1 : starEach (e :: r) env = (false, eval e env) :: starEach r env := by rfl) (h2 : (backTo pos (starEach r env)).any (·.1) = false := by rfl) :
    EV Z A env (.Call (.Name x np) (e :: r) [] pos) l Q X := by
  intro s Q' hs hQ
  refine wpAny_Call_ofName (Name_function_global hE.kind (hE.knd _ hk) (loadGlobal_builtin (hE.glob ▸ Z.T.g.keeps hs.keep) hm (hE.blt ▸ Z.T.b.keeps hs.keep) ((Z.T.builtins x hn).trans hv) ?_) hd)
  have e0 : backTo pos (starEach (e :: r) env) = (false, eval e env) :: backTo pos (starEach r env) := by rw [h1]; rfl
  refine Calls.callWith_builtin (by rw [e0]; exact h2) ?_
  have h' : TR Z A (spliced (backTo pos (starEach (e :: r) env))) (List.map er) l (fun vs l1 => CL Z A (.builtin id) vs l1 Q X) X := h
  rw [e0] at h' ⊢
  exact Calls.evalArgs_plain (h' s _ hs fun vs s1 l1 h1 g1 => g1 vs rfl s1 _ h1 hQ)
end
noncomputable abbrev il (ns : List Int) : List AV := ns.map AV.int
theorem intsAre_of : ∀ {vs : List Value} {ns : List Int}, vs.map er = il ns → IntsAre vs ns
  | [], [], _ => .nil
  | [], _ :: _, h => by simp at h
  | _ :: _, [], h => by simp at h
  | v :: vs, n :: ns, h => by
    simp only [List.map_cons, List.cons.injEq] at h
    obtain ⟨t, rfl⟩ := er_int h.1
    exact .cons n t (intsAre_of h.2)
section
variable {Z : Amb} {A : Around} {env : Env} {l l' : Led} {X : Value → Shared → Prop}
theorem Sat.listAt {s : Shared} {a : Addr} {xs : List AV} (hs : Sat Z l s) (h : (a, AObj.list xs) ∈ l) : ∃ vs n, IsL s.heap a vs n ∧ vs.toList.map er = xs := by
  obtain ⟨_, ob, ho, vs, n, rfl, e⟩ := hs.obj h
  exact ⟨vs, n, ho, e⟩
theorem Sat.tupAt {s : Shared} {a : Addr} {xs : List AV} (hs : Sat Z l s) (h : (a, AObj.tuple xs) ∈ l) : ∃ vs n, s.heap.get? a = some { cls := .type "tuple", data := .seq vs n } ∧ vs.toList.map er = xs := by
  obtain ⟨_, ob, ho, vs, n, rfl, e⟩ := hs.obj h
  exact ⟨vs, n, ho, e⟩
theorem o_add {a b : Int} {Q : AV → Led → Prop} (h : Q (.int (a + b)) l) : O2 Z A (binaryOp .Add) (.int a) (.int b) l Q X := by
  rintro va vb ha hb s Q' hs hQ
  obtain ⟨t, rfl⟩ := er_int ha; obtain ⟨u, rfl⟩ := er_int hb
  exact PyProof.Rows.add_int (hQ _ _ _ (hs.tok _) h)
theorem o_sub {a b : Int} {Q : AV → Led → Prop} (h : Q (.int (a - b)) l) : O2 Z A (binaryOp .Sub) (.int a) (.int b) l Q X := by
  rintro va vb ha hb s Q' hs hQ
  obtain ⟨t, rfl⟩ := er_int ha; obtain ⟨u, rfl⟩ := er_int hb
  exact PyProof.Rows.sub_int (hQ _ _ _ (hs.tok _) h)
theorem o_mul {a b : Int} {Q : AV → Led → Prop} (hm : IntMulOk a b) (h : Q (.int (a * b)) l) : O2 Z A (binaryOp .Mult) (.int a) (.int b) l Q X := by
  rintro va vb ha hb s Q' hs hQ
  obtain ⟨t, rfl⟩ := er_int ha; obtain ⟨u, rfl⟩ := er_int hb
  exact PyProof.Rows.mul_int (hQ _ _ _ (hs.tok _) h) hm
theorem o_mod {a b : Int} {Q : AV → Led → Prop} (hb0 : b ≠ 0) (h : Q (.int (a.fmod b)) l) : O2 Z A (binaryOp .Mod) (.int a) (.int b) l Q X := by
  rintro va vb ha hb s Q' hs hQ
  obtain ⟨t, rfl⟩ := er_int ha; obtain ⟨u, rfl⟩ := er_int hb
  exact PyProof.Rows.mod_int hb0 (hQ _ _ _ (hs.tok _) h)
theorem o_fdiv {a b : Int} {Q : AV → Led → Prop} (hb0 : b ≠ 0) (hp : Builtin.divisionGoesByPylong a b = false) (h : Q (.int (a.fdiv b)) l) : O2 Z A (binaryOp .FloorDiv) (.int a) (.int b) l Q X := by
  rintro va vb ha hb s Q' hs hQ
  obtain ⟨t, rfl⟩ := er_int ha; obtain ⟨u, rfl⟩ := er_int hb
  exact PyProof.Rows.floordiv_int hb0 (hQ _ _ _ (hs.tok _) h) (.inl hp)
theorem o_pow {a n : Int} {Q : AV → Led → Prop} (hn : 0 ≤ n) (hz : (Builtin.Int.intBits a : Int) * n ≤ 2 ^ 27) (h : Q (.int (a ^ n.toNat)) l) : O2 Z A (binaryOp .Pow) (.int a) (.int n) l Q X := by
  rintro va vb ha hb s Q' hs hQ
  obtain ⟨t, rfl⟩ := er_int ha; obtain ⟨u, rfl⟩ := er_int hb
  exact PyProof.Rows.pow_int hn hz (hQ _ _ _ (hs.tok _) h)
theorem o_adds {a b : Str} {Q : AV → Led → Prop} (h : Q (.str (a ++ b)) l) (hz : (a ++ b).length ≤ sizeLine) : O2 Z A (binaryOp .Add) (.str a) (.str b) l Q X := by
  rintro va vb ha hb s Q' hs hQ
  obtain ⟨t, rfl⟩ := er_str ha; obtain ⟨u, rfl⟩ := er_str hb
  exact SBL.add (fun t2 k _ => hQ (.str (a ++ b) _) _ _ (hs.tok _) h) (by rw [Str.length_append] at hz; exact hz)
theorem c_eqi {a b : Int} {Q : Bool → Led → Prop} (h : Q (a == b) l) : CP Z A .Eq (.int a) (.int b) l Q X := by
  rintro va vb ha hb s Q' hs hQ
  obtain ⟨t, rfl⟩ := er_int ha; obtain ⟨u, rfl⟩ := er_int hb
  exact PyProof.Rows.eq_int (hQ _ _ _ hs ⟨_, rfl, h⟩)
theorem c_nei {a b : Int} {Q : Bool → Led → Prop} (h : Q (a != b) l) : CP Z A .NotEq (.int a) (.int b) l Q X := by
  rintro va vb ha hb s Q' hs hQ
  obtain ⟨t, rfl⟩ := er_int ha; obtain ⟨u, rfl⟩ := er_int hb
  exact PyProof.Rows.ne_int (hQ _ _ _ hs ⟨_, rfl, h⟩)
theorem c_lti {a b : Int} {Q : Bool → Led → Prop} (h : Q (decide (a < b)) l) : CP Z A .Lt (.int a) (.int b) l Q X := by
  rintro va vb ha hb s Q' hs hQ
  obtain ⟨t, rfl⟩ := er_int ha; obtain ⟨u, rfl⟩ := er_int hb
  exact PyProof.Rows.lt_int (hQ _ _ _ hs ⟨_, rfl, h⟩)
theorem c_lei {a b : Int} {Q : Bool → Led → Prop} (h : Q (decide (a ≤ b)) l) : CP Z A .LtE (.int a) (.int b) l Q X := by
  rintro va vb ha hb s Q' hs hQ
  obtain ⟨t, rfl⟩ := er_int ha; obtain ⟨u, rfl⟩ := er_int hb
  exact PyProof.Rows.le_int (hQ _ _ _ hs ⟨_, rfl, h⟩)
theorem c_gti {a b : Int} {Q : Bool → Led → Prop} (h : Q (decide (b < a)) l) : CP Z A .Gt (.int a) (.int b) l Q X := by
  rintro va vb ha hb s Q' hs hQ
  obtain ⟨t, rfl⟩ := er_int ha; obtain ⟨u, rfl⟩ := er_int hb
  exact PyProof.Rows.gt_int (hQ _ _ _ hs ⟨_, rfl, h⟩)
theorem c_gei {a b : Int} {Q : Bool → Led → Prop} (h : Q (decide (b ≤ a)) l) : CP Z A .GtE (.int a) (.int b) l Q X := by
  rintro va vb ha hb s Q' hs hQ
  obtain ⟨t, rfl⟩ := er_int ha; obtain ⟨u, rfl⟩ := er_int hb
  exact PyProof.Rows.ge_int (hQ _ _ _ hs ⟨_, rfl, h⟩)
theorem c_eqs {a b : Str} {Q : Bool → Led → Prop} (h : Q (a == b) l) : CP Z A .Eq (.str a) (.str b) l Q X := by
  rintro va vb ha hb s Q' hs hQ
  obtain ⟨t, rfl⟩ := er_str ha; obtain ⟨u, rfl⟩ := er_str hb
  exact PyProof.Rows.eq_str (hQ _ _ _ hs ⟨_, rfl, h⟩)
theorem c_nes {a b : Str} {Q : Bool → Led → Prop} (h : Q (a != b) l) : CP Z A .NotEq (.str a) (.str b) l Q X := by
  rintro va vb ha hb s Q' hs hQ
  obtain ⟨t, rfl⟩ := er_str ha; obtain ⟨u, rfl⟩ := er_str hb
  exact PyProof.Rows.ne_str (hQ _ _ _ hs ⟨_, rfl, h⟩)
noncomputable def AV.isNone : AV → Bool
  | .none => true
  | _ => false
noncomputable def AV.plain : AV → Bool
  | .other _ => false
  | _ => true
theorem c_is {a : AV} {Q : Bool → Led → Prop} (hp : a.plain = true) (h : Q a.isNone l) : CP Z A .Is a .none l Q X := by
  rintro va vb rfl hb s Q' hs hQ
  obtain rfl := er_none hb
  refine wpAny_is_plain ?_ (hQ _ _ _ hs ⟨_, rfl, ?_⟩)
  · cases va <;> simp_all [er, AV.plain, PySem.plainIs]
  · cases va <;> first | exact h | simp_all [er, AV.plain, AV.isNone]
theorem c_isnot {a : AV} {Q : Bool → Led → Prop} (hp : a.plain = true) (h : Q (!a.isNone) l) : CP Z A .IsNot a .none l Q X := by
  rintro va vb rfl hb s Q' hs hQ
  obtain rfl := er_none hb
  refine wpAny_isNot_plain ?_ (hQ _ _ _ hs ⟨_, rfl, ?_⟩)
  · cases va <;> simp_all [er, AV.plain, PySem.plainIs]
  · cases va <;> first | exact h | simp_all [er, AV.plain, AV.isNone]
theorem c_eql {a b : Addr} {ns ms : List Int} {Q : Bool → Led → Prop} (ha : (a, .list (il ns)) ∈ l) (hb : (b, .list (il ms)) ∈ l) (hu : A.units + 64 < cLine) (h : Q (decide (ns = ms)) l) : CP Z A .Eq (.ref a) (.ref b) l Q X := by
  rintro va vb e1 e2 s Q' hs hQ
  obtain rfl := er_ref e1; obtain rfl := er_ref e2
  obtain ⟨vs, n, h1, g1⟩ := hs.listAt ha
  obtain ⟨us, k, h2, g2⟩ := hs.listAt hb
  exact eq_intsK (vs := vs.toList) (us := us.toList) (by simpa using h1.isList) (intsAre_of g1) (by simpa using h2.isList) (intsAre_of g2) hu (hQ _ _ _ hs ⟨_, rfl, h⟩)
theorem c_nel {a b : Addr} {ns ms : List Int} {Q : Bool → Led → Prop} (ha : (a, .list (il ns)) ∈ l) (hb : (b, .list (il ms)) ∈ l) (hu : A.units + 64 < cLine) (h : Q (!decide (ns = ms)) l) : CP Z A .NotEq (.ref a) (.ref b) l Q X := by
  rintro va vb e1 e2 s Q' hs hQ
  obtain rfl := er_ref e1; obtain rfl := er_ref e2
  obtain ⟨vs, n, h1, g1⟩ := hs.listAt ha
  obtain ⟨us, k, h2, g2⟩ := hs.listAt hb
  exact ne_intsK (vs := vs.toList) (us := us.toList) (by simpa using h1.isList) (intsAre_of g1) (by simpa using h2.isList) (intsAre_of g2) hu (hQ _ _ _ hs ⟨_, rfl, h⟩)
noncomputable def strIn (x : Str) (xs : List AV) : Bool := xs.any fun v => match v with | .str y => y == x | _ => false
theorem any_er {vs : Array Value} {xs : List AV} {x : Str} (e : vs.toList.map er = xs) : vs.any (fun v => match er v with | .str y => y == x | _ => false) = strIn x xs := by
  subst e
  unfold strIn
  rw [List.any_map, ← Array.any_toList]
  rfl
theorem c_instr {a : Addr} {x : Str} {xs : List AV} {Q : Bool → Led → Prop} (ha : (a, .tuple xs) ∈ l) (hx : ∀ v ∈ xs, ∃ y, v = .str y) (h : Q (strIn x xs) l) : CP Z A .In (.str x) (.ref a) l Q X := by
  rintro va vb e1 e2 s Q' hs hQ
  obtain ⟨t, rfl⟩ := er_str e1; obtain rfl := er_ref e2
  obtain ⟨vs, n, h1, g1⟩ := hs.tupAt ha
  refine PySem.SeqAt.in_tupleAt (fun v => match er v with | .str y => y == x | _ => false) ⟨_, h1, rfl, n, rfl⟩ (fun y hy => ?_) (hQ _ _ _ hs ⟨_, rfl, by rw [any_er g1]; exact h⟩)
  obtain ⟨z, hz⟩ := hx (er y) (g1 ▸ List.mem_map_of_mem (Array.mem_toList_iff.mpr hy))
  obtain ⟨u, rfl⟩ := er_str hz
  intro prog w E Q h
  exact PyProof.Rows.eqBool_str h
theorem c_notinstrK {a : Addr} {x : Str} {xs : List AV} {vs : Array Value} {n : Nat} {dd : Option Addr} {sl : Array (Option Value)} {Q : Bool → Led → Prop} (ha : Z.K.lookup a = some ⟨.type "tuple", dd, .seq vs n, sl⟩) (hv : vs.toList.map er = xs) (hx : ∀ v ∈ xs, ∃ y, v = .str y) (h : Q (!strIn x xs) l) : CP Z A .NotIn (.str x) (.ref a) l Q X := by
  rintro va vb e1 e2 s Q' hs hQ
  obtain ⟨t, rfl⟩ := er_str e1; obtain rfl := er_ref e2
  refine PySem.SeqAt.notIn_tupleAt (fun v => match er v with | .str y => y == x | _ => false) ⟨_, hs.K _ _ ha, rfl, n, rfl⟩ (fun y hy => ?_) (hQ _ _ _ hs ⟨_, rfl, by rw [any_er hv]; exact h⟩)
  obtain ⟨z, hz⟩ := hx (er y) (hv ▸ List.mem_map_of_mem (Array.mem_toList_iff.mpr hy))
  obtain ⟨u, rfl⟩ := er_str hz
  intro prog w E Q h
  exact PyProof.Rows.eqBool_str h
theorem c_inl {a : Addr} {k : Int} {ns : List Int} {Q : Bool → Led → Prop} (ha : (a, .list (il ns)) ∈ l) (h : Q (ns.any (· == k)) l) : CP Z A .In (.int k) (.ref a) l Q X := by
  rintro va vb e1 e2 s Q' hs hQ
  obtain ⟨t, rfl⟩ := er_int e1; obtain rfl := er_ref e2
  obtain ⟨vs, n, h1, g1⟩ := hs.listAt ha
  exact in_list_ints (vs := vs.toList) (by simpa using h1.isList) (intsAre_of g1) (hQ _ _ _ hs ⟨_, rfl, h⟩)
end
section
variable {Z : Amb} {A : Around} {env : Env} {l l' : Led} {X : Value → Shared → Prop} {L : Addr} {names : List (Str × NameKind)} {cells : List (Str × Addr)}
theorem sub_ref (slice : Expr) (o i : Value) : subscripted slice false o i = operate [o, i] (getItem o i) ∨ subscripted slice false o i = operate [i, o] (getItem o i) := by
  cases slice with
  | Slice lo hi st p =>
    cases st with
    | none => exact .inr rfl
    | some e => exact .inl rfl
  | _ => exact .inl rfl
theorem r_sub {value slice : Expr} {pos : Pos} {Q : AV → Led → Prop}
    (h : EV Z A env value l (fun o l1 => EV Z A env slice l1 (fun i l2 => ∀ vo vi, er vo = o → er vi = i → TR Z A (getItem vo vi) er l2 Q X ∧ ∀ s, Sat Z l2 s → ∃ T id, s.TypeIs vo T ∧ typeLookup (.type T) "__getitem__" = pure (some (.builtin id))) X) X) :
    EV Z A env (.Subscript value slice pos) l Q X := by
  intro s Q' hs hQ
  refine Subscript_ (h s _ hs fun vo s1 l1 h1 g1 => g1 s1 _ h1 fun vi s2 l2 h2 g2 => ?_)
  obtain ⟨g3, g4⟩ := g2 vo vi rfl rfl
  obtain ⟨T, id, hT, hl⟩ := g4 s2 h2
  rcases sub_ref slice vo vi with e | e
  · exact tail_any hT hl (g3 s2 _ h2 hQ) e
  · exact tail_any hT hl (g3 s2 _ h2 hQ) e
noncomputable def IT (Z : Amb) (A : Around) (o i : AV) (l : Led) (Q : AV → Led → Prop) (X : Value → Shared → Prop) : Prop :=
  ∀ vo vi, er vo = o → er vi = i → TR Z A (getItem vo vi) er l Q X ∧ ∀ s, Sat Z l s → ∃ T id, s.TypeIs vo T ∧ typeLookup (.type T) "__getitem__" = pure (some (.builtin id))
theorem i_list {a : Addr} {xs : List AV} {k : Int} {v : AV} {Q : AV → Led → Prop} (ha : (a, .list xs) ∈ l) (h0 : 0 ≤ k) (hf : k < 2 ^ 63) (hx : xs[k.toNat]? = some v) (h : Q v l) : IT Z A (.ref a) (.int k) l Q X := by
  rintro vo vi e1 e2
  obtain rfl := er_ref e1; obtain ⟨t, rfl⟩ := er_int e2
  refine ⟨fun s Q' hs hQ => ?_, fun s hs => ?_⟩
  · obtain ⟨vs, n, h1, g1⟩ := hs.listAt ha
    subst g1
    rw [List.getElem?_map] at hx
    obtain ⟨u, hu, rfl⟩ := Option.map_eq_some_iff.mp hx
    exact wpAny_getItem_list h1.isList h0 hf (by simpa using hu) (hQ _ _ _ hs h)
  · obtain ⟨vs, n, h1, g1⟩ := hs.listAt ha
    exact ⟨"list", _, ⟨_, h1, rfl⟩, slot_list_getitem.lookup⟩
theorem i_listneg {a : Addr} {xs : List AV} {k : Int} {v : AV} {Q : AV → Led → Prop} (ha : (a, .list xs) ∈ l) (h0 : k < 0) (h1 : -(xs.length : Int) ≤ k) (hf : -(2 ^ 63) ≤ k) (hx : xs[(k + xs.length).toNat]? = some v) (h : Q v l) : IT Z A (.ref a) (.int k) l Q X := by
  rintro vo vi e1 e2
  obtain rfl := er_ref e1; obtain ⟨t, rfl⟩ := er_int e2
  refine ⟨fun s Q' hs hQ => ?_, fun s hs => ?_⟩
  · obtain ⟨vs, n, h2, g1⟩ := hs.listAt ha
    subst g1
    rw [List.getElem?_map] at hx
    obtain ⟨u, hu, rfl⟩ := Option.map_eq_some_iff.mp hx
    simp only [List.length_map, Array.length_toList] at h1 hu
    exact wpAny_getItem_list_neg h2.isList h0 h1 hf (by simpa using hu) (hQ _ _ _ hs h)
  · obtain ⟨vs, n, h2, g1⟩ := hs.listAt ha
    exact ⟨"list", _, ⟨_, h2, rfl⟩, slot_list_getitem.lookup⟩
noncomputable def pickA (xs : List AV) (lo hi st : Option Int) : List AV :=
  (sliceRange (sliceBounds lo hi st xs.length).1 (sliceBounds lo hi st xs.length).2.1 (sliceBounds lo hi st xs.length).2.2).filterMap (xs[·]?)
noncomputable def part : AV → Option (Option Int)
  | .none => some none
  | .int i => some (some i)
  | _ => none
theorem isPart {v : Value} {o : Option Int} (h : part (er v) = some o) : IsPart v o := by
  cases v <;> simp_all [er, part]
  · subst h; exact .none
  · subst h; exact .int _ _
noncomputable def EVo (Z : Amb) (A : Around) (env : Env) (e : Option Expr) (l : Led) (Q : AV → Led → Prop) (X : Value → Shared → Prop) : Prop := TR Z A (evalPart e env) er l Q X
theorem eo_none {Q : AV → Led → Prop} (h : Q .none l) : EVo Z A env none l Q X := fun s Q' hs hQ => wpAny_evalPart_none (hQ .none _ _ hs h)
theorem eo_some {e : Expr} {Q : AV → Led → Prop} (h : EV Z A env e l Q X) : EVo Z A env (some e) l Q X := fun s Q' hs hQ => wpAny_evalPart_some (h s _ hs hQ)
inductive SliceK (Q : AV → Led → Prop) (o vl vu vs : AV) (l : Led) : Prop
  | mk (a : Addr) (xs : List AV) (pl pu ps : Option Int) (e : o = .ref a) (h : (a, .list xs) ∈ l) (h1 : part vl = some pl) (h2 : part vu = some pu) (h3 : part vs = some ps) (h0 : ps ≠ some 0) (hz : xs.length ≤ 1000) (q : ∀ b, Q (.ref b) ((b, .list (pickA xs pl pu ps)) :: l))
theorem r_slice {value : Expr} {lo hi st : Option Expr} {p pos : Pos} {Q : AV → Led → Prop}
    (h : EV Z A env value l (fun o l1 => EVo Z A env lo l1 (fun vl l2 => EVo Z A env hi l2 (fun vu l3 => EVo Z A env st l3 (SliceK Q o vl vu) X) X) X) X) :
    EV Z A env (.Subscript value (.Slice lo hi st p) pos) l Q X := by
  intro s Q' hs hQ
  refine Subscript_ (h s _ hs fun vo s1 l1 h1 g1 => wpAny_Slice (g1 s1 _ h1 fun vl s2 l2 h2 g2 => g2 s2 _ h2 fun vu s3 l3 h3 g3 => g3 s3 _ h3 fun vs s4 l4 h4 g4 => ?_))
  obtain ⟨a, xs, pl, pu, ps, e1, ha, e2, e3, e4, h0, hz, g5⟩ := g4
  obtain rfl := er_ref e1
  obtain ⟨its, n, hl, rfl⟩ := h4.listAt ha
  have hl' : IsL (s4.heap.push { cls := .type "slice", data := .fields #[vl, vu, vs] }) a its n := hl.push _
  have hz' : its.size ≤ sizeLine := by
    simp only [List.length_map, Array.length_toList] at hz
    exact Nat.le_trans hz (by decide)
  have hg : wpAny Z.M A (getItem (.ref a) (.ref s4.heap.objs.size)) Q' X { s4 with heap := s4.heap.push { cls := .type "slice", data := .fields #[vl, vu, vs] } } := by
    refine wpAny_getItem_list_slice hl'.isList ⟨_, Heap.get?_push_size _ rfl, rfl, rfl⟩ (isPart e2) (isPart e3) (isPart e4) h0 ?_ hz'
    refine hQ _ _ _ (h4.new (h' := (s4.heap.push { cls := .type "slice", data := .fields #[vl, vu, vs] }).push { cls := .type "list", data := .seq (slicePick its pl pu ps) }) (tk := s4.toks) (a := (s4.heap.push { cls := .type "slice", data := .fields #[vl, vu, vs] }).objs.size) (o := .list (pickA (its.toList.map er) pl pu ps)) (fun b o e => Heap.get?_push_of_some _ (Heap.get?_push_of_some _ e)) ?_ (Heap.get?_push_size _ rfl) ⟨_, 0, rfl, ?_⟩) (g5 _)
    · rw [Heap.size_push]; exact Nat.le_succ _
    · unfold slicePick pickA
      simp only [List.length_map, Array.length_toList]
      rw [List.map_filterMap]
      congr 1
      funext i
      simp [List.getElem?_map]
  rcases sub_ref (.Slice lo hi st p) (.ref a) (.ref s4.heap.objs.size) with e | e
  · exact tail_any (T := "list") ⟨_, hl', rfl⟩ slot_list_getitem.lookup hg e
  · exact tail_any (T := "list") ⟨_, hl', rfl⟩ slot_list_getitem.lookup hg e
inductive IsLs (K : Addr → Led → Prop) (v : AV) (l : Led) : Prop
  | mk (a : Addr) (h : v = .ref a) (m : ∃ ys, (a, .list ys) ∈ l) (q : K a l)
inductive AppK (a : Addr) (Q : Led → Prop) (v : AV) (l : Led) : Prop
  | mk (xs : List AV) (l3 : Led) (U : Up1 a (.list xs) (.list (xs ++ [v])) l l3) (hz : xs.length ≤ 1000) (q : Q l3)
inductive ExtK (a : Addr) (Q : Led → Prop) (v : AV) (l : Led) : Prop
  | mk (b : Addr) (xs ys : List AV) (l3 : Led) (e : v = .ref b) (h : (b, .list ys) ∈ l) (U : Up1 a (.list xs) (.list (xs ++ ys)) l l3) (hz : xs.length ≤ 1000) (hz2 : ys.length ≤ 1000) (q : Q l3)
inductive PopK (Q : AV → Led → Prop) (ov : AV) (l : Led) : Prop
  | mk (a : Addr) (xs : List AV) (v : AV) (l2 : Led) (e : ov = .ref a) (U : Up1 a (.list (xs ++ [v])) (.list xs) l l2) (hz : xs.length ≤ 1000) (q : Q v l2)
theorem m_append {o e : Expr} {apos pos : Pos} {Q : AV → Led → Prop} 
    (h : EV Z A env o l (IsLs fun a l1 => EV Z A env e l1 (AppK a (Q .none)) X) X)
    (hb : ∀ nm, attributeBase o nm env (eval o env) = eval o env := by intro _; rfl) (hl : (apos.endLine == pos.line) = true := by rfl) (he : starEach [e] env = [(false, eval e env)] := by rfl) : EV Z A env (.Call (.Attribute o "append" apos) [e] [] pos) l Q X := by
  intro s Q' hs hQ
  refine wpAny_Call_method_lateS (hb _) (by rw [he]; rfl) hl (h s _ hs fun vo s1 l1 h1 g1 => ?_)
  obtain ⟨a, ea, ⟨ys, ha⟩, g⟩ := g1
  obtain rfl := er_ref ea
  obtain ⟨its, n, hL, _⟩ := h1.listAt ha
  refine ⟨"list", "list.append", F.plainAttrs_list, F.slot_list_append, rfl, ⟨_, hL, rfl⟩, fun b hb => by cases hb; exact ⟨_, hL, rfl⟩, ?_⟩
  rw [show backTo pos (starEach [e] env) = [(false, eval e env)] from by rw [he]; rfl]
  refine P.append_list (g s1 _ h1 fun v s2 l2 h2 g2 => ?_)
  obtain ⟨xs, l3, U, hz, hq⟩ := g2
  obtain ⟨its, n, hL, rfl⟩ := h2.listAt U.mem
  refine ⟨its, n, by simp only [List.length_map, Array.length_toList] at hz; exact Nat.le_trans hz (by decide), hL, hQ .none _ _ (h2.up (tk := s2.toks) U (fun b hb o e => (Heap.get?_update_other _ _ (Ne.symm hb)).trans e) (hL.update _) ⟨_, _, rfl, by simp⟩) hq⟩
theorem m_extend {o e : Expr} {apos pos : Pos} {Q : AV → Led → Prop} 
    (h : EV Z A env o l (IsLs fun a l1 => EV Z A env e l1 (ExtK a (Q .none)) X) X)
    (hb : ∀ nm, attributeBase o nm env (eval o env) = eval o env := by intro _; rfl) (hl : (apos.endLine == pos.line) = true := by rfl) (he : starEach [e] env = [(false, eval e env)] := by rfl) : EV Z A env (.Call (.Attribute o "extend" apos) [e] [] pos) l Q X := by
  intro s Q' hs hQ
  refine wpAny_Call_method_lateS (hb _) (by rw [he]; rfl) hl (h s _ hs fun vo s1 l1 h1 g1 => ?_)
  obtain ⟨a, ea, ⟨ys, ha⟩, g⟩ := g1
  obtain rfl := er_ref ea
  obtain ⟨its, n, hL, _⟩ := h1.listAt ha
  refine ⟨"list", "list.extend", F.plainAttrs_list, F.slot_list_extend, rfl, ⟨_, hL, rfl⟩, fun b hb => by cases hb; exact ⟨_, hL, rfl⟩, ?_⟩
  rw [show backTo pos (starEach [e] env) = [(false, eval e env)] from by rw [he]; rfl]
  refine P.extend_list (g s1 _ h1 fun v s2 l2 h2 g2 => ?_)
  obtain ⟨b, xs, ys, l3, eb, hb, U, hz1, hz2, hq⟩ := g2
  obtain rfl := er_ref eb
  obtain ⟨its, n, hL, rfl⟩ := h2.listAt U.mem
  obtain ⟨its2, n2, hL2, rfl⟩ := h2.listAt hb
  simp only [List.length_map, Array.length_toList] at hz1 hz2
  have hzl : (1000 : Nat) ≤ sizeLine ∧ 2000 ≤ sizeLine := by decide
  refine ⟨b, its, its2, n, n2, Nat.le_trans hz1 hzl.1, by omega, extend_door (by omega), rfl, hL, hL2, hQ .none _ _ (h2.up (tk := s2.toks) U (fun b hb o e => (Heap.get?_update_other _ _ (Ne.symm hb)).trans e) (hL.update _) ⟨_, _, rfl, by simp⟩) hq⟩
theorem m_pop {o : Expr} {apos pos : Pos} {Q : AV → Led → Prop} 
    (h : EV Z A env o l (PopK Q) X)
    (hb : ∀ nm, attributeBase o nm env (eval o env) = eval o env := by intro _; rfl) (hl : (apos.endLine == pos.line) = true := by rfl) : EV Z A env (.Call (.Attribute o "pop" apos) [] [] pos) l Q X := by
  intro s Q' hs hQ
  refine wpAny_Call_method_lateS (hb _) rfl hl (h s _ hs fun vo s1 l1 h1 g1 => ?_)
  obtain ⟨a, xs, v, l2, ea, U, hz, hq⟩ := g1
  obtain rfl := er_ref ea
  obtain ⟨its, n, hL, hx⟩ := h1.listAt U.mem
  refine ⟨"list", "list.pop", F.plainAttrs_list, F.slot_list_pop, rfl, ⟨_, hL, rfl⟩, fun b hb => by cases hb; exact ⟨_, hL, rfl⟩, ?_⟩
  have hlen : its.size = xs.length + 1 := by
    have := congrArg List.length hx
    simpa using this
  have hy : ∃ y, its[its.size - 1]? = some y ∧ er y = v := by
    have h1 : (its.toList.map er)[xs.length]? = some v := by rw [hx]; simp
    rw [List.getElem?_map] at h1
    obtain ⟨y, h2, h3⟩ := Option.map_eq_some_iff.mp h1
    exact ⟨y, by rw [hlen]; simpa using h2, h3⟩
  obtain ⟨y, hy, rfl⟩ := hy
  refine P.pop_list hL hy (hQ y _ _ (h1.up (tk := s1.toks) U (fun b hb o e => (Heap.get?_update_other _ _ (Ne.symm hb)).trans e) (hL.update _) ⟨_, _, rfl, ?_⟩) hq) (by rw [hlen]; exact Nat.le_trans (Nat.succ_le_succ hz) (by decide))
  have hlt : its.size - 1 < its.size := by omega
  rw [Array.eraseIdxIfInBounds, dif_pos hlt, Array.toList_eraseIdx, hlen, Nat.add_sub_cancel]
  have hd := congrArg List.dropLast hx
  rw [List.dropLast_concat, ← List.map_dropLast] at hd
  rw [← hd, List.eraseIdx_eq_dropLast (by simp [hlen])]
end
section
variable {Z : Amb} {A : Around} {env : Env} {l l' : Led} {X : Value → Shared → Prop} {L : Addr} {names : List (Str × NameKind)} {cells : List (Str × Addr)}
noncomputable def isK (k : Int) (v : Value) : Bool := match er v with | .int i => i == k | _ => false
theorem isK_gives {its : Array Value} {ns : List Int} {k : Int} {t : Tok} (h : its.toList.map er = il ns) : ∀ y, y ∈ its → PySem.MeetsSeq.EqGives y (.int k t) (isK k y) := by
  intro y hy
  have h1 : er y ∈ il ns := h ▸ List.mem_map_of_mem (Array.mem_toList_iff.mpr hy)
  obtain ⟨i, _, hi⟩ := List.mem_map.mp h1
  obtain ⟨u, rfl⟩ := er_int hi.symm
  intro prog w A E s Q h
  exact wpAny_eqBool_int h
theorem isK_at {its : Array Value} {ns : List Int} {k : Int} (h : its.toList.map er = il ns) (m : Nat) (hm : m < its.size) : ∃ hn : m < ns.length, isK k its[m] = (ns[m] == k) := by
  have hlen : its.size = ns.length := by simpa using congrArg List.length h
  refine ⟨hlen ▸ hm, ?_⟩
  have h1 : (its.toList.map er)[m]? = (il ns)[m]? := by rw [h]
  rw [List.getElem?_map, List.getElem?_map, List.getElem?_eq_getElem (by simpa using hm), List.getElem?_eq_getElem (hlen ▸ hm)] at h1
  simp only [Option.map_some, Option.some.injEq, Array.getElem_toList] at h1
  unfold isK
  rw [h1]
inductive IdxK (a : Addr) (Q : AV → Led → Prop) (v : AV) (l : Led) : Prop
  | mk (ns : List Int) (k : Int) (e : v = .int k) (h : (a, .list (il ns)) ∈ l) (hk : k ∈ ns) (hz : ns.length ≤ 1000) (q : Q (.int (ns.idxOf k)) l)
inductive RemK (a : Addr) (Q : Led → Prop) (v : AV) (l : Led) : Prop
  | mk (ns : List Int) (k : Int) (l3 : Led) (e : v = .int k) (U : Up1 a (.list (il ns)) (.list (il (ns.erase k))) l l3) (hk : k ∈ ns) (hz : ns.length ≤ 1000) (q : Q l3)
theorem m_index {o e : Expr} {apos pos : Pos} {Q : AV → Led → Prop}
    (h : EV Z A env o l (IsLs fun a l1 => EV Z A env e l1 (IdxK a Q) X) X)
    (hb : ∀ nm, attributeBase o nm env (eval o env) = eval o env := by intro _; rfl) (hl : (apos.endLine == pos.line) = true := by rfl) (he : starEach [e] env = [(false, eval e env)] := by rfl) : EV Z A env (.Call (.Attribute o "index" apos) [e] [] pos) l Q X := by
  intro s Q' hs hQ
  refine wpAny_Call_method_lateS (hb _) (by rw [he]; rfl) hl (h s _ hs fun vo s1 l1 h1 g1 => ?_)
  obtain ⟨a, ea, ⟨ys, ha⟩, g⟩ := g1
  obtain rfl := er_ref ea
  obtain ⟨its, n, hL, _⟩ := h1.listAt ha
  refine ⟨"list", "list.index", F.plainAttrs_list, F.slot_list_index, rfl, ⟨_, hL, rfl⟩, fun b hb => by cases hb; exact ⟨_, hL, rfl⟩, ?_⟩
  rw [show backTo pos (starEach [e] env) = [(false, eval e env)] from by rw [he]; rfl]
  refine P.index_list (g s1 _ h1 fun v s2 l2 h2 g2 => ?_)
  obtain ⟨ns, k, ev, hm, hk, hz, hq⟩ := g2
  obtain ⟨t, rfl⟩ := er_int ev
  obtain ⟨its, n, hL, e1⟩ := h2.listAt hm
  have hlen : its.size = ns.length := by simpa using congrArg List.length e1
  have hj : ns.idxOf k < ns.length := List.idxOf_lt_length_of_mem hk
  refine ⟨its, n, isK k, ns.idxOf k, hlen ▸ hj, hL, isK_gives e1, by omega, ?_, fun m hm hlt => ?_, hQ (.int _ _) _ _ (h2.tok _) hq⟩
  · obtain ⟨hn, e2⟩ := isK_at e1 (ns.idxOf k) (hlen ▸ hj) (k := k)
    rw [e2]; simp
  · obtain ⟨hn, e2⟩ := isK_at e1 m hm (k := k)
    rw [e2]
    exact beq_false_of_ne (fun e => by
      have := List.not_of_lt_findIdx (p := (· == k)) (xs := ns) (i := m) hlt
      simp [e] at this)
theorem m_remove {o e : Expr} {apos pos : Pos} {Q : AV → Led → Prop}
    (h : EV Z A env o l (IsLs fun a l1 => EV Z A env e l1 (RemK a (Q .none)) X) X)
    (hb : ∀ nm, attributeBase o nm env (eval o env) = eval o env := by intro _; rfl) (hl : (apos.endLine == pos.line) = true := by rfl) (he : starEach [e] env = [(false, eval e env)] := by rfl) : EV Z A env (.Call (.Attribute o "remove" apos) [e] [] pos) l Q X := by
  intro s Q' hs hQ
  refine wpAny_Call_method_lateS (hb _) (by rw [he]; rfl) hl (h s _ hs fun vo s1 l1 h1 g1 => ?_)
  obtain ⟨a, ea, ⟨ys, ha⟩, g⟩ := g1
  obtain rfl := er_ref ea
  obtain ⟨its, n, hL, _⟩ := h1.listAt ha
  refine ⟨"list", "list.remove", F.plainAttrs_list, F.slot_list_remove, rfl, ⟨_, hL, rfl⟩, fun b hb => by cases hb; exact ⟨_, hL, rfl⟩, ?_⟩
  rw [show backTo pos (starEach [e] env) = [(false, eval e env)] from by rw [he]; rfl]
  refine P.remove_list (g s1 _ h1 fun v s2 l2 h2 g2 => ?_)
  obtain ⟨ns, k, l3, ev, U, hk, hz, hq⟩ := g2
  obtain ⟨t, rfl⟩ := er_int ev
  obtain ⟨its, n, hL, e1⟩ := h2.listAt U.mem
  have hlen : its.size = ns.length := by simpa using congrArg List.length e1
  have hj : ns.idxOf k < ns.length := List.idxOf_lt_length_of_mem hk
  refine ⟨its, n, isK k, ns.idxOf k, hlen ▸ hj, by rw [hlen]; exact Nat.le_trans hz (by decide), hL, isK_gives e1, ?_, fun m hm hlt => ?_,
    hQ .none _ _ (h2.up (tk := s2.toks) U (fun b hb o e => (Heap.get?_update_other _ _ (Ne.symm hb)).trans e) (hL.update _) ⟨_, _, rfl, ?_⟩) hq⟩
  · obtain ⟨hn, e2⟩ := isK_at e1 (ns.idxOf k) (hlen ▸ hj) (k := k)
    rw [e2]; simp
  · obtain ⟨hn, e2⟩ := isK_at e1 m hm (k := k)
    rw [e2]
    exact beq_false_of_ne (fun e => by
      have := List.not_of_lt_findIdx (p := (· == k)) (xs := ns) (i := m) hlt
      simp [e] at this)
  · rw [Array.eraseIdxIfInBounds, dif_pos (hlen ▸ hj), Array.toList_eraseIdx]
    have : (its.toList.eraseIdx (ns.idxOf k)).map er = (its.toList.map er).eraseIdx (ns.idxOf k) := by
      apply List.ext_getElem?
      intro i
      simp only [List.getElem?_map, List.getElem?_eraseIdx]
      split <;> rfl
    rw [this, e1]
    have h3 : (il ns).eraseIdx (ns.idxOf k) = (ns.eraseIdx (ns.idxOf k)).map AV.int := by
      apply List.ext_getElem?
      intro i
      simp only [List.getElem?_map, List.getElem?_eraseIdx]
      split <;> rfl
    rw [h3, List.erase_eq_eraseIdx_of_idxOf rfl]
theorem b_len {a : Addr} {xs : List AV} {Q : AV → Led → Prop} (ha : (a, .list xs) ∈ l) (hz : xs.length ≤ 1000) (h : Q (.int xs.length) l) : CL Z A (.builtin "len") [.ref a] l Q X := by
  rintro vs e s Q' hs hQ
  obtain ⟨v, rfl, e2⟩ : ∃ v, vs = [v] ∧ er v = .ref a := by
    cases vs with
    | nil => simp at e
    | cons v r => cases r with
      | nil => exact ⟨v, rfl, by simpa using e⟩
      | cons _ _ => simp at e
  obtain rfl := er_ref e2
  obtain ⟨its, n, hL, rfl⟩ := hs.listAt ha
  simp only [List.length_map, Array.length_toList] at hz h
  exact call_len_list hL.isList (by omega) (hQ (.int _ _) _ _ (hs.tok _) h)
theorem one_arg {vs : List Value} {a : AV} (e : vs.map er = [a]) : ∃ v, vs = [v] ∧ er v = a := by
  cases vs with
  | nil => simp at e
  | cons v r => cases r with
    | nil => exact ⟨v, rfl, by simpa using e⟩
    | cons _ _ => simp at e
theorem b_list {a : Addr} {xs : List AV} {Q : AV → Led → Prop} (ha : (a, .list xs) ∈ l) (hz : xs.length ≤ 1000) (h : ∀ b, Q (.ref b) ((b, .list xs) :: l)) : CL Z A (.type "list") [.ref a] l Q X := by
  rintro vs e s Q' hs hQ
  obtain ⟨v, rfl, e2⟩ := one_arg e
  obtain rfl := er_ref e2
  obtain ⟨its, n, hL, rfl⟩ := hs.listAt ha
  simp only [List.length_map, Array.length_toList] at hz h
  exact call_list_seq a (T := "list") (.inl rfl) hL rfl rfl (fun h' c' hk ho => hQ _ _ _ (hs.new (tk := s.toks) (o := .list (its.toList.map er)) hk (Nat.le_refl _) ho ⟨its, c', rfl, rfl⟩) (h _)) (Nat.le_trans hz (by decide))
theorem b_str {i : Int} {Q : AV → Led → Prop} (hz : i.natAbs.log2 < 1920) (h : Q (.str (toString i)) l) : CL Z A (.type "str") [.int i] l Q X := by
  rintro vs e s Q' hs hQ
  obtain ⟨v, rfl, e2⟩ := one_arg e
  obtain ⟨t, rfl⟩ := er_int e2
  exact PySem.P.str_of_int hz (hQ (.str _ _) _ _ (hs.tok _) h)
theorem r_callt {x : Str} {np pos : Pos} {e : Expr} {r : List Expr} {T : String} {Q : AV → Led → Prop} (hE : EnvIs env L names cells) (hk : (x, NameKind.globalImplicit) ∈ names) (hm : Z.mg x = none) (hv : bootBuiltins x = some (.type T))
    (h : AR Z A env pos (e :: r) l (fun vs l1 => CL Z A (.type T) vs l1 Q X) X) (hn : x ≠ "__name__" := by decide) (hd : (x == ("__debug__" : Str)) = false := by decide)
    (h1 : starEach (e :: r) env = (false, eval e env) :: starEach r env := by rfl) (h2 : (backTo pos (starEach r env)).any (·.1) = false := by rfl) :
    EV Z A env (.Call (.Name x np) (e :: r) [] pos) l Q X := by
  intro s Q' hs hQ
  refine wpAny_Call_ofName (Name_function_global hE.kind (hE.knd _ hk) (loadGlobal_builtin (hE.glob ▸ Z.T.g.keeps hs.keep) hm (hE.blt ▸ Z.T.b.keeps hs.keep) ((Z.T.builtins x hn).trans hv) ?_) hd)
  have e0 : backTo pos (starEach (e :: r) env) = (false, eval e env) :: backTo pos (starEach r env) := by rw [h1]; rfl
  refine PySem.callWith_type (by rw [e0]; exact h2) ?_
  have h' : TR Z A (spliced (backTo pos (starEach (e :: r) env))) (List.map er) l (fun vs l1 => CL Z A (.type T) vs l1 Q X) X := h
  rw [e0] at h' ⊢
  exact Calls.evalArgs_plain (h' s _ hs fun vs s1 l1 h1 g1 => g1 vs rfl s1 _ h1 hQ)
theorem o_addl {a b : Addr} {xs ys : List AV} {Q : AV → Led → Prop} (ha : (a, .list xs) ∈ l) (hb : (b, .list ys) ∈ l) (hz1 : xs.length ≤ 1000) (hz2 : ys.length ≤ 1000) (h : ∀ c, Q (.ref c) ((c, .list (xs ++ ys)) :: l)) : O2 Z A (binaryOp .Add) (.ref a) (.ref b) l Q X := by
  rintro va vb e1 e2 s Q' hs hQ
  obtain rfl := er_ref e1; obtain rfl := er_ref e2
  obtain ⟨its, n, hL, rfl⟩ := hs.listAt ha
  obtain ⟨its2, n2, hL2, rfl⟩ := hs.listAt hb
  simp only [List.length_map, Array.length_toList] at hz1 hz2
  have hzl : (2000 : Nat) ≤ sizeLine := by decide
  refine P.add_list hL hL2 ?_ (by omega)
  exact hQ _ _ _ (hs.new (tk := s.toks) (o := .list (its.toList.map er ++ its2.toList.map er)) (fun b o e => Heap.get?_push_of_some _ e) (Nat.le_refl _) (Heap.get?_push_size _ rfl) ⟨_, 0, rfl, by simp⟩) (h _)
end
theorem Room.deeper {A : Around} {env : Env} {k : Nat} (h : Room A (k + 1)) : Room (A.deeper env) k := by
  obtain ⟨h1, h2, h3⟩ := h
  refine ⟨h1, ?_, ?_⟩
  · show A.depth + 1 + k < _; omega
  · show A.units + 3 + 8 * k + 400 < _; omega
theorem Room.le {A : Around} {k j : Nat} (h : Room A k) (hj : j ≤ k) : Room A j := by
  obtain ⟨h1, h2, h3⟩ := h
  exact ⟨h1, by omega, by omega⟩
theorem Room.room {A : Around} {k : Nat} (h : Room A (k + 1)) : A.depth < recursionLimit := by have := h.2.1; omega
theorem Room.units {A : Around} {k : Nat} (h : Room A k) : A.units + 64 < cLine := by have := h.2.2; omega
theorem lookup_of_mem {β : Type} {m : List (Str × β)} (hn : (m.map (·.1)).Nodup) {x : Str} {v : β} (h : (x, v) ∈ m) : m.lookup x = some v := by
  induction m with
  | nil => cases h
  | cons p r ih =>
    obtain ⟨y, u⟩ := p
    simp only [List.map_cons, List.nodup_cons] at hn
    rw [List.lookup_cons]
    rcases List.mem_cons.mp h with e | h
    · cases e; simp
    · have : x ≠ y := fun e => hn.1 (e ▸ List.mem_map_of_mem (f := (·.1)) h)
      rw [beq_false_of_ne this]
      exact ih hn.2 h
theorem mem_of_look {β : Type} {m : List (Str × β)} {x : Str} {v : β} (h : m.lookup x = some v) : (x, v) ∈ m := by
  induction m with
  | nil => cases h
  | cons p r ih =>
    obtain ⟨y, u⟩ := p
    rw [List.lookup_cons] at h
    cases e : x == y with
    | true => rw [e] at h; cases h; rw [eq_of_beq e]; exact .head _
    | false => rw [e] at h; exact .tail _ (ih h)
theorem lookup_reverse {β : Type} {m : List (Str × β)} (hn : (m.map (·.1)).Nodup) (x : Str) : m.reverse.lookup x = m.lookup x := by
  have hr : (m.reverse.map (·.1)).Nodup := by rw [List.map_reverse]; exact (List.reverse_perm _).nodup_iff.mpr hn
  cases e : m.lookup x with
  | some v => exact lookup_of_mem hr (List.mem_reverse.mpr (mem_of_look e))
  | none =>
    cases e2 : m.reverse.lookup x with
    | none => rfl
    | some v => rw [lookup_of_mem hn (List.mem_reverse.mp (mem_of_look e2))] at e; cases e
theorem look_zip (zs : List (Str × Value)) (others : List Str) (x : Str) :
    look (zs.map (fun p => (p.1, some (er p.2))) ++ others.map fun y => (y, none)) x = (zs.lookup x).map er := by
  unfold look
  induction zs with
  | nil =>
    simp only [List.map_nil, List.nil_append, List.lookup_nil, Option.map_none]
    induction others with
    | nil => rfl
    | cons y r ih =>
      simp only [List.map_cons, List.lookup_cons]
      cases x == y with
      | true => rfl
      | false => exact ih
  | cons p r ih =>
    obtain ⟨y, v⟩ := p
    simp only [List.map_cons, List.cons_append, List.lookup_cons]
    cases x == y with
    | true => rfl
    | false => exact ih
noncomputable def frame0 (ps : List Str) (args : List AV) (others : List Str) : List (Str × Option AV) := (ps.zip args).map (fun p => (p.1, some p.2)) ++ others.map fun y => (y, none)
theorem frame0_eq (ps : List Str) (vs : List Value) (others : List Str) : frame0 ps (vs.map er) others = (ps.zip vs).map (fun p => (p.1, some (er p.2))) ++ others.map fun y => (y, none) := by
  unfold frame0
  congr 1
  induction ps generalizing vs with
  | nil => rfl
  | cons p r ih => cases vs with
    | nil => rfl
    | cons v vs => simp only [List.map_cons, List.zip_cons_cons, ih]
noncomputable def retOf : AFlow → AV
  | .ret v => v
  | _ => .none
inductive Up (P : Led → Prop) (l : Led) : Prop
  | mk (l' : Led) (h : Sb l' l) (q : P l')
theorem frame_is {prog : Program} {w : World} {h : Heap} {L : Addr} {zs : List (Str × Value)} {others : List Str} (hns : h.Ns L (fun x => zs.reverse.lookup x))
    (hn : ((zs.map (fun p => (p.1, some (er p.2))) ++ others.map fun y => ((y, none) : Str × Option AV)).map (·.1)).Nodup) :
    ∃ ob, h.get? L = some ob ∧ AObj.Is prog w (.frame (zs.map (fun p => (p.1, some (er p.2))) ++ others.map fun y => (y, none))) ob := by
  obtain ⟨o, es, ep, ho, hd, hk, hf⟩ := hns
  refine ⟨o, ho, hn, es, ep, hd, hk, fun x => ?_⟩
  rw [look_zip, hf]
  show (zs.reverse.lookup x).map er = _
  rw [lookup_reverse]
  have : (zs.map (·.1)).Sublist ((zs.map (fun p => (p.1, some (er p.2))) ++ others.map fun y => ((y, none) : Str × Option AV)).map (·.1)) := by
    rw [List.map_append, List.map_map]
    exact List.sublist_append_left _ _
  exact hn.sublist this
section
variable {Z : Amb} {A : Around} {l : Led} {X : Value → Shared → Prop}
theorem envIs_call {fd : FuncData} {L a : Addr} (hg : fd.globals = mainGlobals) (hb : fd.builtins = builtinsNs) (hk : fd.scope.kind = .function) (hn : (fd.scope.names.map (·.1)).Nodup) : EnvIs (callEnv fd L a) L fd.scope.names [] where
  kind := hk
  loc := rfl
  glob := hg
  blt := hb
  knd := fun x hx => lookup_of_mem hn hx
  cls := fun x hx => by cases hx
noncomputable def CD (Z : Amb) (A : Around) (f : Value) (args : List AV) (l : Led) (Q : AV → Led → Prop) (X : Value → Shared → Prop) : Prop :=
  ∀ vs : List Value, vs.map er = args → ∀ s (R : Result → Shared → Prop), Sat Z l s → (∀ v s' l', Sat Z l' s' → Q (er v) l' → R (.ok (.ret v)) s') → (∀ e s', X e s' → R (.error e) s') → codeAny Z.M A (.call f ⟨vs, []⟩) R s
theorem CD.cl {f : Value} {args : List AV} {Q : AV → Led → Prop} (h : CD Z A f args l Q X) : CL Z A f args l Q X :=
  fun vs e s Q' hs hQ => wpAny_call (h vs e s _ hs (fun v s' l' h1 h2 => hQ v s' l' h1 h2) fun e s' hx => hx)
theorem cd_def {f : Addr} {oc : Value} {od : Option Addr} {osl : Array (Option Value)} {name qual : Str} {params : Arguments} {body : List Stmt} {scope : Scope} {dV kV doc pm cdv ct : Value} {an : Option Addr}
    {ps others : List Str} {args : List AV} {m : List (Str × Option AV)} {k : Nat} {Q : AV → Led → Prop}
    (hf : Z.K.lookup f = some ⟨oc, od, .func (fnOf name qual params body scope dV kV doc pm an cdv ct), osl⟩) (hcd : codeIn Z.K cdv qual = true)
    (hbind : ∀ vs : List Value, vs.map er = args → bindArgs (fnOf name qual params body scope dV kV doc pm an cdv ct) ⟨vs, []⟩ = pure (ps.zip vs))
    (hloc : (ps.all fun x => decide (scope.names.lookup x = some .local)) = true) (hcell : (scope.names.all fun x => decide (x.2 ≠ .cell)) = true) (hn : (scope.names.map (·.1)).Nodup)
    (hm : frame0 ps args others = m) (hmn : (m.map (·.1)).Nodup) (hk : scope.kind = .function) (hco : scope.isCoroutine = false) (hgen : scope.isGenerator = false)
    (hr : Room A (k + 1))
    (h : ∀ env L A', EnvIs env L scope.names [] → Room A' k → SV Z A' env body ((L, .frame m) :: l) (fun fl => Up (Q (retOf fl))) (fun _ _ => False)) : CD Z A (.ref f) args l Q X := by
  rintro vs rfl s R hs hQ hX
  subst hm
  refine codeAny_call_def hr.room (hs.K _ _ hf) rfl (Z.T.nolimit.keeps hs.keep) (codeRec_of hs.K hcd) rfl (BindsTo.of_eq (hbind vs rfl))
    (fun x hx => of_decide_eq_true (List.all_eq_true.mp hcell x hx)) (fun x hx => of_decide_eq_true (List.all_eq_true.mp hloc x.1 (List.of_mem_zip hx).1)) (fun h₁ hns hkp => ?_) hco hgen hk
  have hS : Sat Z ((s.heap.objs.size, .frame (frame0 ps (vs.map er) others)) :: l) { s with heap := h₁, toks := s.toks + (ps.zip vs).length } := by
    rw [frame0_eq] at hmn ⊢
    obtain ⟨ob, ho, hi⟩ := frame_is (prog := Z.prog) (w := Z.w) hns hmn
    exact hs.new hkp (Nat.le_refl _) ho hi
  refine wpAny_mono (h _ _ _ (envIs_call rfl rfl hk hn) hr.deeper _ (fun fl s' => R (.ok (.ret (match fl with | .ret v => v | _ => .none))) s') hS ?_) (fun fl s' x => x) (fun _ _ x => x.elim)
  rintro fl s' l' hs' ⟨l2, hsb, hq⟩
  refine hQ _ _ l2 (hs'.subperm hsb) ?_
  cases fl <;> exact hq
end
theorem Keyed.find {es : List DictEntry} {fs : List (Str × AV)} (h : Keyed es fs) {x : Str} {v : AV} (hn : (fs.map (·.1)).Nodup) (hm : (x, v) ∈ fs) : ∃ u, getL x es = some (some u) ∧ er u = v := by
  unfold getL
  have : ∃ e, es.find? (·.key.isStr x) = some e ∧ er e.val = v := by
    induction h with
    | nil => cases hm
    | @cons e y u es fs hk hv hr ih =>
      obtain ⟨t, hk⟩ := hk
      simp only [List.map_cons, List.nodup_cons] at hn
      rcases List.mem_cons.mp hm with q | q
      · cases q
        refine ⟨e, ?_, hv⟩
        rw [List.find?_cons, hk]
        simp [Value.isStr]
      · have hne : y ≠ x := fun e => hn.1 (e ▸ List.mem_map_of_mem (f := (·.1)) q)
        obtain ⟨e', h1, h2⟩ := ih hn.2 q
        refine ⟨e', ?_, h2⟩
        rw [List.find?_cons, hk, show Value.isStr (.str y t) x = false from beq_false_of_ne hne]
        exact h1
  obtain ⟨e, he, hv⟩ := this
  exact ⟨e.val, by rw [he], hv⟩
theorem Keyed.miss {es : List DictEntry} {fs : List (Str × AV)} (h : Keyed es fs) {x : Str} (hm : x ∉ fs.map (·.1)) : getL x es = some none := by
  unfold getL
  have h1 : es.find? (·.key.isStr x) = none := by
    induction h with
    | nil => rfl
    | @cons e y u es fs hk hv hr ih =>
      obtain ⟨t, hk⟩ := hk
      simp only [List.map_cons, List.mem_cons, not_or] at hm
      rw [List.find?_cons, hk, show Value.isStr (.str y t) x = false from beq_false_of_ne (Ne.symm hm.1)]
      exact ih hm.2
  have h2 : es.any (·.refKey) = false := by
    clear h1 hm
    induction h with
    | nil => rfl
    | @cons e y u es fs hk hv hr ih =>
      obtain ⟨t, hk⟩ := hk
      rw [List.any_cons, ih, DictEntry.refKey, hk]; rfl
  rw [h1, h2]; rfl
theorem Keyed.length {es : List DictEntry} {fs : List (Str × AV)} (h : Keyed es fs) : es.length = fs.length := by
  induction h with
  | nil => rfl
  | cons _ _ _ ih => simp [ih]
inductive DSet (x : Str) (v : AV) : List (Str × AV) → List (Str × AV) → Prop
  | head {u r} : DSet x v ((x, u) :: r) ((x, v) :: r)
  | tail {p r r'} : DSet x v r r' → DSet x v (p :: r) (p :: r')
theorem DSet.keys {x : Str} {v : AV} {m m' : List (Str × AV)} (h : DSet x v m m') : m'.map (·.1) = m.map (·.1) := by
  induction h with
  | head => rfl
  | tail _ ih => simp only [List.map_cons, ih]
theorem DSet.mem {x : Str} {v : AV} {m m' : List (Str × AV)} (h : DSet x v m m') : x ∈ m.map (·.1) := by
  induction h with
  | head => exact .head _
  | tail _ ih => exact .tail _ ih
theorem Keyed.put {fs fs' : List (Str × AV)} {x : Str} {v : AV} {hsh : Int} {t : Tok} {u : Value} (hu : er u = v) (D : DSet x v fs fs') : ∀ {es : List DictEntry}, (fs.map (·.1)).Nodup → Keyed es fs → Keyed (putL x hsh (.str x t) u es) fs' := by
  induction D with
  | head =>
    rintro es hn h
    cases h with
    | cons hk hv hr =>
      obtain ⟨t', hk'⟩ := hk
      unfold putL
      rw [if_pos (by rw [hk']; simp [Value.isStr])]
      exact .cons ⟨t', hk'⟩ hu hr
  | @tail p r r' h1 ih =>
    rintro es hn h
    obtain ⟨y, z⟩ := p
    simp only [List.map_cons, List.nodup_cons] at hn
    cases h with
    | cons hk hv hr =>
      obtain ⟨t', hk'⟩ := hk
      have hne : y ≠ x := fun e => hn.1 (e ▸ h1.mem)
      unfold putL
      rw [if_neg (by rw [hk']; simp [Value.isStr, hne])]
      exact .cons ⟨t', hk'⟩ hv (ih hn.2 hr)
theorem Keyed.putNew {x : Str} {v : AV} {hsh : Int} {t : Tok} {u : Value} (hu : er u = v) {es : List DictEntry} {fs : List (Str × AV)} (hn : x ∉ fs.map (·.1)) (h : Keyed es fs) : Keyed (putL x hsh (.str x t) u es) (fs ++ [(x, v)]) := by
  induction h with
  | nil => exact .cons ⟨t, rfl⟩ hu .nil
  | @cons e y z es fs hk hv hr ih =>
    obtain ⟨t', hk'⟩ := hk
    simp only [List.map_cons, List.mem_cons, not_or] at hn
    unfold putL
    rw [if_neg (by rw [hk']; simp [Value.isStr, Ne.symm hn.1])]
    exact .cons ⟨t', hk'⟩ hv (ih hn.2)
noncomputable def attrOk (K : Frag) (C : Addr) (name : Str) : Bool := plainGet K C name && hasDictIn K C && (findIn K (.ref C) name == some none)
noncomputable def storeOk' (K : Frag) (C : Addr) (name : Str) : Bool := (findIn K (.ref C) "__setattr__" == some (some (.builtin "object.__setattr__"))) && plainOver K C && (takerIn K C name == some none) && hasDictIn K C
noncomputable def methOk (K : Frag) (C : Addr) (name : Str) (f : Addr) : Bool := plainGet K C name && (findIn K (.ref C) name == some (some (.ref f))) && isFn K (.ref f) && keepIn K (.ref f)
section
variable {Z : Amb} {A : Around} {env : Env} {l l' : Led} {X : Value → Shared → Prop} {L : Addr} {names : List (Str × NameKind)} {cells : List (Str × Addr)}
theorem Sat.inst {s : Shared} (hs : Sat Z l s) {x C d : Addr} {fs : List (Str × AV)} (hx : (x, .inst C d) ∈ l) (hd : (d, .idict fs) ∈ l) :
    (fs.map (·.1)).Nodup ∧ ∃ es n, InstAt s.heap x (instObj C d) C (some (dictOf es n)) ∧ s.heap.get? d = some (dictOf es n) ∧ Keyed es fs := by
  obtain ⟨_, ob, ho, rfl⟩ := hs.obj hx
  obtain ⟨_, od, hod, hn, es, n, rfl, hk⟩ := hs.obj hd
  exact ⟨hn, es, n, ⟨ho, rfl, rfl, hod⟩, hod, hk⟩
theorem handed {u : Value} (h : (er u).plain = true) : handedIn u = true := by
  cases u <;> first | rfl | simp [er, AV.plain] at h
theorem g_attr {x C d : Addr} {fs : List (Str × AV)} {name : Str} {v : AV} {ex : Bool} {Q : AV → Led → Prop} (hx : (x, .inst C d) ∈ l) (hd : (d, .idict fs) ∈ l) (hv : (name, v) ∈ fs) (hK : attrOk Z.K C name = true) (hp : v.plain = true) (h : Q v l) :
    TR Z A (getAttr (.ref x) name ex) er l Q X := by
  intro s Q' hs hQ
  unfold attrOk at hK
  simp only [Bool.and_eq_true, beq_iff_eq] at hK
  obtain ⟨hn, es, n, I, hod, hk⟩ := hs.inst hx hd
  obtain ⟨u, hu, rfl⟩ := hk.find hn hv
  exact get_value hs.K I (plainGet_of hK.1.1).1 (findObj_own hK.1.2 hK.2 rfl (by rw [lookIn_dict]; exact hu)) (handed hp) (hQ _ _ _ (hs.tok _) h)
inductive AttK (Z : Amb) (name : Str) (Q : AV → Led → Prop) (ov : AV) (l : Led) : Prop
  | mk (x C d : Addr) (fs : List (Str × AV)) (v : AV) (e : ov = .ref x) (hx : (x, .inst C d) ∈ l) (hd : (d, .idict fs) ∈ l) (hv : (name, v) ∈ fs) (hK : attrOk Z.K C name = true) (hp : v.plain = true) (q : Q v l)
theorem r_attr {o : Expr} {name : Str} {pos : Pos} {Q : AV → Led → Prop}
    (h : EV Z A env o l (AttK Z name Q) X)
    (he : eval (.Attribute o name pos) env = (do
      let o' ← eval o env
      standAt pos.atName
      let r ← holding [o'] (getAttr o' name true)
      letTemporaryGo o o' r
      pure r) := by with_unfolding_all rfl) : EV Z A env (.Attribute o name pos) l Q X := by
  intro s Q' hs hQ
  refine Attribute_any_ (h s _ hs fun vo s1 l1 h1 g1 => ?_) he
  obtain ⟨x, C, d, fs, v, e1, hx, hd, hv, hK, hp, hq⟩ := g1
  obtain rfl := er_ref e1
  exact g_attr hx hd hv hK hp hq s1 _ h1 hQ
theorem set_raw {x C d : Addr} {name : Str} {es : List DictEntry} {n : Nat} {u : Value} {s : Shared} {Q' : Unit → Shared → Prop} (hX : Z.K.In s.heap) (I : InstAt s.heap x (instObj C d) C (some (dictOf es n))) (hod : s.heap.get? d = some (dictOf es n))
    (hK : storeOk' Z.K C name = true) (hl : (getL name es).isSome = true) (hz : (putL name (PyData.keyHash Z.w.params name) (.str name (s.toks + 1)) u es).length ≤ 1000)
    (h : Q' () { s with heap := s.heap.update d (Obj.putName name (PyData.keyHash Z.w.params name) (.str name (s.toks + 1)) u), toks := s.toks + 2 }) :
    wpAny Z.M A (setAttr (.ref x) name u) Q' X s := by
  unfold storeOk' at hK
  simp only [Bool.and_eq_true, beq_iff_eq] at hK
  obtain ⟨⟨⟨k1, k2⟩, k3⟩, k4⟩ := hK
  refine set_plain hX I k1 (osa_open (s := { s with toks := s.toks + 1 }) hX I k2 k3 fun b => ?_)
  obtain ⟨cd, hc, hd'⟩ := any_some k4
  have D' : (s.heap.update d (Obj.putName name (PyData.keyHash Z.w.params name) (.str name (s.toks + 1)) u)).get? d = some (dictOf (putL name (PyData.keyHash Z.w.params name) (.str name (s.toks + 1)) u es) (putN name es n)) := by
    rw [Heap.get?_update_self _ hod (by rw [putName_dict]; rfl), putName_dict]
  have hx := I.at_
  refine wpAny_bind (wpAny_pure (wpAny_bind (wpAny_bind (wpAny_loadPart hx (wpAny_bind (looks_clsIn (M := Z.M) (h := s.heap) hX hc A.in1 _ _ _ (fun _ _ e => e) ?_))))))
  rw [hd']
  refine wpAny_pure (a := some d) (wpAny_bind (wpAny_pure (wpAny_bind ?_)))
  unfold nsSet
  refine wpAny_bind (wpAny_bind (wpAny_askSetting (wpAny_pure (wpAny_bind (wpAny_mkText (wpAny_bind (wpAny_loadPart hod ?_)))))))
  have c : (!es.toArray.any (·.key.isStr name) && es.toArray.any (·.refKey)) = false := by
    rw [← Array.any_toList, ← Array.any_toList]
    show (!es.any (·.key.isStr name) && es.any (·.refKey)) = false
    unfold getL at hl
    split at hl
    · rename_i en he
      rw [List.any_eq_true.mpr ⟨en, List.mem_of_find?_eq_some he, List.find?_some he⟩]; rfl
    · split at hl
      · cases hl
      · rename_i z; rw [Bool.not_eq_true] at z; rw [z, Bool.and_false]
  dsimp only
  rw [aRefKeyMayBeTheName_at, c]
  refine wpAny_updatePart hod ?_
  refine wpAny_bind (wpAny_lookBehind D' (pastItsLine_dict (by rw [List.size_toArray, sizeLine_eq]; omega)) ?_)
  exact wpAny_pure h
theorem st_attr {x C d : Addr} {fs fs' : List (Str × AV)} {name : Str} {v : AV} {Q : Led → Prop} (hx : (x, .inst C d) ∈ l) (U : Up1 d (.idict fs) (.idict fs') l l') (D : DSet name v fs fs') (hK : storeOk' Z.K C name = true) (hz : fs.length ≤ 100) (h : Q l') :
    ∀ vo, er vo = .ref x → ST Z A (setAttr vo name) v l Q X := by
  rintro vo e u rfl s Q' hs hQ
  obtain rfl := er_ref e
  obtain ⟨hn, es, n, I, hod, hk⟩ := hs.inst hx U.mem
  have hp := hk.put (hsh := PyData.keyHash Z.w.params name) (t := s.toks + 1) (u := u) rfl D hn
  have hl : (getL name es).isSome = true := by
    obtain ⟨p, hp, e⟩ := List.mem_map.mp D.mem
    obtain ⟨u', hu', _⟩ := hk.find hn (x := name) (v := p.2) (by rw [← e]; exact hp)
    rw [hu']; rfl
  have hlen : fs'.length = fs.length := by simpa using congrArg List.length D.keys
  refine set_raw hs.K I hod hK hl (by rw [hp.length]; omega) (hQ () _ l' (hs.up U (fun b hb o e => (Heap.get?_update_other _ _ (Ne.symm hb)).trans e) (Heap.get?_update_self _ hod (by rw [putName_dict]; rfl)) ⟨D.keys ▸ hn, _, _, putName_dict _ _ _ _ _ _, hp⟩) h)
theorem st_attrNew {x C d : Addr} {fs : List (Str × AV)} {name : Str} {v : AV} {Q : Led → Prop} (hx : (x, .inst C d) ∈ l) (U : Up1 d (.idict fs) (.idict (fs ++ [(name, v)])) l l') (hm : name ∉ fs.map (·.1)) (hK : storeOk' Z.K C name = true) (hz : fs.length ≤ 100) (h : Q l') :
    ∀ vo, er vo = .ref x → ST Z A (setAttr vo name) v l Q X := by
  rintro vo e u rfl s Q' hs hQ
  obtain rfl := er_ref e
  obtain ⟨hn, es, n, I, hod, hk⟩ := hs.inst hx U.mem
  have hp := hk.putNew (hsh := PyData.keyHash Z.w.params name) (t := s.toks + 1) (u := u) rfl hm
  have hl : (getL name es).isSome = true := by rw [hk.miss hm]; rfl
  have hnd : ((fs ++ [(name, er u)]).map (·.1)).Nodup := by
    rw [List.map_append, List.nodup_append]
    refine ⟨hn, by simp, ?_⟩
    rintro a ha b hb rfl
    simp only [List.map_cons, List.map_nil, List.mem_singleton] at hb
    exact hm (hb ▸ ha)
  refine set_raw hs.K I hod hK hl (by rw [hp.length, List.length_append]; simp; omega) (hQ () _ l' (hs.up U (fun b hb o e => (Heap.get?_update_other _ _ (Ne.symm hb)).trans e) (Heap.get?_update_self _ hod (by rw [putName_dict]; rfl)) ⟨hnd, _, _, putName_dict _ _ _ _ _ _, hp⟩) h)
end
noncomputable abbrev noX : Value → Shared → Prop := fun _ _ => False
section
variable {Z : Amb} {A : Around} {env : Env} {l l' : Led} {X : Value → Shared → Prop} {L : Addr} {names : List (Str × NameKind)} {cells : List (Str × Addr)}
theorem g_meth {x C d : Addr} {fs : List (Str × AV)} {name : Str} {f : Addr} {pl : Sem Bool} {s : Shared} {Q' : Value × List Value → Shared → Prop} (hs : Sat Z l s) (hx : (x, .inst C d) ∈ l) (hd : (d, .idict fs) ∈ l) (hn : name ∉ fs.map (·.1)) (hK : methOk Z.K C name f = true)
    (h : Q' (.ref f, [.ref x]) s) : wpAny Z.M A (getMethod (.ref x) name pl) Q' X s := by
  unfold methOk at hK
  simp only [Bool.and_eq_true, beq_iff_eq] at hK
  obtain ⟨_, es, n, I, hod, hk⟩ := hs.inst hx hd
  exact method_fn hs.K I (plainGet_of hK.1.1.1).1 (plainGet_of hK.1.1.1).2 hK.1.1.2 (beq_iff_eq.mp hK.1.2) (by show (lookIn name (dictOf es n)).map _ = _; rw [lookIn_dict, hk.miss hn]; rfl) h
noncomputable def callForm (env : Env) (o : Expr) (name : Str) (args : List Expr) (apos pos : Pos) (pl : Sem Bool) : Prop :=
  eval (.Call (.Attribute o name apos) args [] pos) env = (do
      let ov ← eval o env
      standAt apos.atName
      let (f, first) ← holding [ov] (getMethod ov name pl)
      callWith pos f first (backTo pos (starEach args env)) (backToKw pos (keywordEach [] env)))
inductive MetK (Z : Amb) (name : Str) (K : Addr → Addr → Led → Prop) (ov : AV) (l : Led) : Prop
  | mk (x C d : Addr) (fs : List (Str × AV)) (f : Addr) (e : ov = .ref x) (hx : (x, .inst C d) ∈ l) (hd : (d, .idict fs) ∈ l) (hn : name ∉ fs.map (·.1)) (hK : methOk Z.K C name f = true) (q : K f x l)
theorem m_own0 {o : Expr} {name : Str} {apos pos : Pos} {pl : Sem Bool} {Q : AV → Led → Prop}
    (h : EV Z A env o l (MetK Z name fun f x l1 => CL Z A (.ref f) [.ref x] l1 Q X) X)
    (he : callForm env o name [] apos pos pl := by rfl) : EV Z A env (.Call (.Attribute o name apos) [] [] pos) l Q X := by
  intro s Q' hs hQ
  refine methodCall_KW (pl := pl) (h s _ hs fun vo s1 l1 h1 g1 => ?_) he
  obtain ⟨x, C, d, fs, f, e1, hx, hd, hn, hK, hc⟩ := g1
  obtain rfl := er_ref e1
  refine g_meth h1 hx hd hn hK ?_
  unfold methOk at hK
  simp only [Bool.and_eq_true] at hK
  exact callWith_of rfl (keeps_K hK.2) (PySem.evalArgs_none ⟨h1.K, hc [.ref x] rfl s1 Q' h1 hQ⟩)
theorem m_own {o e : Expr} {r : List Expr} {name : Str} {apos pos : Pos} {pl : Sem Bool} {Q : AV → Led → Prop}
    (h : EV Z A env o l (MetK Z name fun f x l1 => AR Z A env pos (e :: r) l1 (fun vs l2 => CL Z A (.ref f) (.ref x :: vs) l2 Q X) X) X)
    (he : callForm env o name (e :: r) apos pos pl := by rfl) (ha : starEach (e :: r) env = (false, eval e env) :: starEach r env := by rfl) (hb : (backTo pos (starEach r env)).any (·.1) = false := by rfl) :
    EV Z A env (.Call (.Attribute o name apos) (e :: r) [] pos) l Q X := by
  intro s Q' hs hQ
  refine methodCall_KW (pl := pl) (h s _ hs fun vo s1 l1 h1 g1 => ?_) he
  obtain ⟨x, C, d, fs, f, e1, hx, hd, hn, hK, hc⟩ := g1
  obtain rfl := er_ref e1
  refine g_meth h1 hx hd hn hK ?_
  unfold methOk at hK
  simp only [Bool.and_eq_true] at hK
  exact callWith_K h1.K hK.2 (hc s1 _ h1 fun vs s2 l2 h2 g2 => ⟨h2.K, g2 (.ref x :: vs) rfl s2 _ h2 hQ⟩) ha hb
theorem cl_make {C fI : Addr} {args : List AV} {k : Nat} {Q : AV → Led → Prop} (hm : makesIn Z.K C = true) (hi : findIn Z.K (.ref C) "__init__" = some (some (.ref fI))) (hf : isFn Z.K (.ref fI) = true) (hr : Room A (k + 1))
    (h : ∀ A' x d, Room A' k → CD Z A' (.ref fI) (.ref x :: args) ((x, .inst C d) :: (d, .idict []) :: l) (fun v l' => v = .none ∧ Q (.ref x) l') X) : CL Z A (.ref C) args l Q X := by
  rintro vs rfl s Q' hs hQ
  obtain ⟨hh, g, dr, t, os⟩ := s
  refine wpAny_call (make_core (makes_of hs.K hm) (looks_findIn hs.K hi) (fun self => bind_fn hs.K self (beq_iff_eq.mp hf)) (.inl rfl) ?_)
  have h1 : Sat Z ((hh.objs.size, .idict []) :: l) ⟨hh.push emptyDict, g, dr, t, os⟩ := hs.new (h' := hh.push emptyDict) (tk := t) (fun b o e => Heap.get?_push_of_some _ e) (Nat.le_refl _) (Heap.get?_push_size _ rfl) ⟨List.nodup_nil, [], 0, rfl, .nil⟩
  have h2 : Sat Z ((hh.objs.size + 1, .inst C hh.objs.size) :: (hh.objs.size, .idict []) :: l) ⟨(hh.push emptyDict).push (instObj C hh.objs.size), g, dr, t, os⟩ := by
    refine h1.new (h' := (hh.push emptyDict).push (instObj C hh.objs.size)) (tk := t) (fun b o e => Heap.get?_push_of_some _ e) ?_ ?_ rfl
    · show (hh.push emptyDict).objs.size ≤ _
      rw [Heap.size_push]; exact Nat.le_refl _
    · rw [show hh.objs.size + 1 = (hh.push emptyDict).objs.size from (Heap.size_push ..).symm]
      exact Heap.get?_push_size _ rfl
  have hr' : Room (A.under (.builtin "type.__call__" ⟨.ref C :: vs, []⟩)) k := by
    obtain ⟨r1, r2, r3⟩ := hr
    refine ⟨r1, ?_, ?_⟩
    · rw [depth_under_make]; omega
    · rw [units_under_make]; omega
  exact h _ (hh.objs.size + 1) hh.objs.size hr' (.ref (hh.objs.size + 1) :: vs) rfl _ _ h2 (fun v s' l' hs' hq => ⟨er_none hq.1, hQ _ _ _ hs' hq.2⟩) (fun e s' hx => hx)
end
inductive Rm (a : Addr) : Led → Led → Prop
  | head {o r} : Rm a ((a, o) :: r) r
  | tail {p r r'} : Rm a r r' → Rm a (p :: r) (p :: r')
theorem Rm.sub {a : Addr} {l l' : Led} (h : Rm a l l') : l'.Sublist l := by
  induction h with
  | head => exact List.sublist_cons_self _ _
  | tail _ ih => exact ih.cons_cons _
theorem Rm.mem {a : Addr} {l l' : Led} (h : Rm a l l') : a ∈ l.map (·.1) := by
  induction h with
  | head => exact .head _
  | tail _ ih => exact .tail _ ih
theorem Rm.ne {a : Addr} {l l' : Led} (h : Rm a l l') : (l.map (·.1)).Nodup → ∀ p ∈ l', p.1 ≠ a := by
  induction h with
  | head =>
    intro hn p hp e
    simp only [List.map_cons, List.nodup_cons] at hn
    exact hn.1 (e ▸ List.mem_map_of_mem hp)
  | @tail q r r' h1 ih =>
    intro hn p hp
    simp only [List.map_cons, List.nodup_cons] at hn
    rcases List.mem_cons.mp hp with rfl | hp
    · exact fun e => hn.1 (e ▸ h1.mem)
    · exact ih hn.2 p hp
theorem Sat.rm {Z : Amb} {l l' : Led} {s : Shared} {a : Addr} (h : Sat Z l s) (hr : Rm a l l') {h' : Heap} {tk : Nat} (hk : Heap.ExtBut a s.heap h') (hl : l' ≠ []) : Sat Z l' { s with heap := h', toks := tk } := by
  obtain ⟨hp, t, rfl, R⟩ := h
  have hz : Z.h₀.objs.size ≤ a := by
    obtain ⟨p, hp, e⟩ := List.mem_map.mp hr.mem
    exact e ▸ (R.objs p hp).1
  have objs : ∀ p ∈ l', Z.h₀.objs.size ≤ p.1 ∧ ∃ ob, h'.get? p.1 = some ob ∧ p.2.Is Z.prog Z.w ob := fun p hp => by
    obtain ⟨h1, ob, h2, h3⟩ := R.objs p (hr.sub.subset hp)
    exact ⟨h1, ob, hk _ _ (hr.ne R.nd p hp) h2, h3⟩
  refine ⟨h', tk, rfl, fun b x e => hk b x ?_ (R.keep b x e), R.nd.sublist (hr.sub.map _), objs, ?_⟩
  · rintro rfl
    exact absurd (Heap.lt_size e) (Nat.not_lt.mpr hz)
  · obtain ⟨p, hp⟩ := List.exists_mem_of_ne_nil _ hl
    obtain ⟨h1, ob, h2, _⟩ := objs p hp
    exact ⟨p.1, ob, h1, h2⟩
section
variable {Z : Amb} {A : Around} {env : Env} {l l' : Led} {X : Value → Shared → Prop} {L : Addr} {names : List (Str × NameKind)} {cells : List (Str × Addr)}
theorem not_sys {s : Shared} (hs : Sat Z l s) {a : Addr} {o : AObj} (h : (a, o) ∈ l) : (a == sysModules) = false := by
  have h1 := (hs.obj h).1
  obtain ⟨mc, hns, _⟩ := Z.T.nolimit
  have h2 := hns.lt
  exact beq_false_of_ne (fun e => absurd (Nat.lt_of_lt_of_le h2 (e ▸ h1)) (by decide))
noncomputable def ITER (Z : Amb) (A : Around) (v : AV) (l : Led) (K : Addr → Led → Prop) (X : Value → Shared → Prop) : Prop :=
  ∀ u, er u = v → TR Z A (pyIter u) er l (IsR K) X
noncomputable def NextItem (Z : Amb) (A : Around) (it : Addr) (l : Led) (v : AV) (l3 : Led) : Prop :=
  ∀ s Q' X, Sat Z l s → (∀ u s', er u = v → Sat Z l3 s' → Q' (some u) s') → wpAny Z.M A (pyNext (.ref it)) Q' X s
noncomputable def NextEnd (Z : Amb) (A : Around) (it : Addr) (l : Led) (l3 : Led) : Prop :=
  ∀ s Q' X, Sat Z l s → (∀ s', Sat Z l3 s' → Q' none s') → wpAny Z.M A (pyNext (.ref it)) Q' X s
theorem iter_list {a : Addr} {xs : List AV} {K : Addr → Led → Prop} (ha : (a, .list xs) ∈ l) (h : ∀ it, K it ((it, .liter a 0) :: l)) : ITER Z A (.ref a) l K X := by
  rintro u e s Q' hs hQ
  obtain rfl := er_ref e
  obtain ⟨its, n, hL, _⟩ := hs.listAt ha
  exact wpAny_pyIter_list hL.isList (hQ _ _ _ (hs.new (tk := s.toks) (o := .liter a 0) (fun b o e => Heap.get?_push_of_some _ e) (Nat.le_refl _) (Heap.get?_push_size _ rfl) ⟨rfl, rfl⟩) ⟨_, rfl, h _⟩)
theorem next_list {it a : Addr} {xs : List AV} {i : Nat} {v : AV} {l3 : Led} (U : Up1 it (.liter a i) (.liter a (i + 1)) l l3) (ha : (a, .list xs) ∈ l) (hx : xs[i]? = some v) : NextItem Z A it l v l3 := by
  rintro s Q' X hs hQ
  obtain ⟨its, n, hL, rfl⟩ := hs.listAt ha
  obtain ⟨_, ob, ho, h1, h2⟩ := hs.obj U.mem
  rw [List.getElem?_map] at hx
  obtain ⟨u, hu, rfl⟩ := Option.map_eq_some_iff.mp hx
  refine wpAny_pyNext_list_item ⟨ob, ho, h1, h2⟩ hL.isList (x := u) (by simpa using hu) (fun h' hit hB => ?_)
  obtain ⟨o2, ho2, h3, h4⟩ := hit
  exact hQ u _ rfl (hs.up (tk := s.toks) U (fun b hb o e => (hB.2 b hb).trans e) ho2 ⟨h3, h4⟩)
theorem end_list {it a : Addr} {xs : List AV} {i : Nat} {l3 : Led} (hh : A.handled = none) (hit : (it, .liter a i) ∈ l) (ha : (a, .list xs) ∈ l) (hi : xs.length ≤ i) (hr : Rm it l l3) (hl : l3 ≠ []) : NextEnd Z A it l l3 := by
  rintro s Q' X hs hQ
  obtain ⟨its, n, hL, rfl⟩ := hs.listAt ha
  obtain ⟨_, ob, ho, h1, h2⟩ := hs.obj hit
  simp only [List.length_map, Array.length_toList] at hi
  refine wpAny_pyNext_list_end hh ⟨ob, ho, h1, h2⟩ hL.isList (by simp [hi]) (fun h' hB => hQ _ (hs.rm (tk := s.toks) hr hB hl))
theorem Sat.dictAt {s : Shared} {d : Addr} {kvs : List (Int × AV)} {ep : Nat} (hs : Sat Z l s) (h : (d, .dictI kvs ep) ∈ l) : ∃ kvs', s.heap.DictAt (PySem.intKind Z.prog Z.w) d kvs' ep ∧ kvs'.map (fun p => (p.1, er p.2)) = kvs := by
  obtain ⟨_, ob, ho, kvs', es, h1, h2, h3, h4, h5, h6⟩ := hs.obj h
  exact ⟨kvs', ⟨ob, es, ho, h1, h2, h3, h4, h5⟩, h6⟩
theorem iter_dict {d : Addr} {kvs : List (Int × AV)} {ep : Nat} {K : Addr → Led → Prop} (ha : (d, .dictI kvs ep) ∈ l) (h : ∀ it, K it ((it, .kiter d 0 kvs.length ep) :: l)) : ITER Z A (.ref d) l K X := by
  rintro u e s Q' hs hQ
  obtain rfl := er_ref e
  obtain ⟨kvs', hD, rfl⟩ := hs.dictAt ha
  refine wpAny_pyIter_dict (not_sys hs ha) hD (hQ _ _ _ (hs.new (tk := s.toks) (o := .kiter d 0 (kvs'.map (fun p => (p.1, er p.2))).length ep) (fun b o e => Heap.get?_push_of_some _ e) (Nat.le_refl _) (Heap.get?_push_size _ rfl) ⟨rfl, ?_⟩) ⟨_, rfl, h _⟩)
  simp
theorem next_dict {it d : Addr} {kvs : List (Int × AV)} {i ep : Nat} {k : Int} {v : AV} {l3 : Led} (U : Up1 it (.kiter d i kvs.length ep) (.kiter d (i + 1) kvs.length ep) l l3) (ha : (d, .dictI kvs ep) ∈ l) (hx : kvs[i]? = some (k, v)) : NextItem Z A it l (.int k) l3 := by
  rintro s Q' X hs hQ
  obtain ⟨kvs', hD, rfl⟩ := hs.dictAt ha
  obtain ⟨_, ob, ho, h1, h2⟩ := hs.obj U.mem
  rw [List.getElem?_map] at hx
  obtain ⟨⟨k', u⟩, hu, e⟩ := Option.map_eq_some_iff.mp hx
  simp only [Prod.mk.injEq] at e
  obtain ⟨rfl, rfl⟩ := e
  refine wpAny_pyNext_dict_item (i := i) ⟨ob, ho, h1, by simpa using h2⟩ hD hu (fun key h' hk hit hB => ?_)
  obtain ⟨o2, ho2, h3, h4⟩ := hit
  obtain ⟨t, rfl⟩ := Value.isInt_shape hk
  exact hQ _ _ rfl (hs.up (tk := s.toks) U (fun b hb o e => (hB.2 b hb).trans e) ho2 ⟨h3, by simpa using h4⟩)
theorem end_dict {it d : Addr} {kvs : List (Int × AV)} {i ep : Nat} {l3 : Led} (hh : A.handled = none) (hit : (it, .kiter d i kvs.length ep) ∈ l) (ha : (d, .dictI kvs ep) ∈ l) (hi : kvs.length ≤ i) (hr : Rm it l l3) (hl : l3 ≠ []) : NextEnd Z A it l l3 := by
  rintro s Q' X hs hQ
  obtain ⟨kvs', hD, rfl⟩ := hs.dictAt ha
  obtain ⟨_, ob, ho, h1, h2⟩ := hs.obj hit
  simp only [List.length_map] at hi
  exact wpAny_pyNext_dict_end hh ⟨ob, ho, h1, by simpa using h2⟩ hD (List.getElem?_eq_none hi) (fun h' hB => hQ _ (hs.rm (tk := s.toks) hr hB hl))
theorem b_range {n : Int} {Q : AV → Led → Prop} (h : ∀ r, Q (.ref r) ((r, .range n) :: l)) : CL Z A (.type "range") [.int n] l Q X := by
  rintro vs e s Q' hs hQ
  obtain ⟨v, rfl, e2⟩ := one_arg e
  obtain ⟨t, rfl⟩ := er_int e2
  exact call_range_1 (hQ _ _ _ (hs.new (o := .range n) (fun b o e => Heap.get?_push_of_some _ e) (Nat.le_refl _) (Heap.get?_push_size _ rfl) ⟨_, _, _, rfl⟩) (h _))
theorem iter_range {r : Addr} {n : Nat} {K : Addr → Led → Prop} (ha : (r, .range n) ∈ l) (hz : n ≤ 1000) (h : ∀ it, K it ((it, .riter 0 n) :: l)) : ITER Z A (.ref r) l K X := by
  rintro u e s Q' hs hQ
  obtain rfl := er_ref e
  obtain ⟨_, ob, ho, t, u, v, rfl⟩ := hs.obj ha
  refine wpAny_pyIter_range ho (small_one (by decide) (by decide) (by omega) (by omega)) (hQ _ _ _ (hs.new (tk := s.toks) (o := .riter 0 n) (fun b o e => Heap.get?_push_of_some _ e) (Nat.le_refl _) (Heap.get?_push_size _ rfl) ?_) ⟨_, rfl, h _⟩)
  show _ = _
  rw [rangeSize_one]
  congr 3
  split
  · simp
  · have : n = 0 := by omega
    subst this; rfl
theorem next_range {it : Addr} {c : Int} {n : Nat} {l3 : Led} (U : Up1 it (.riter c (n + 1)) (.riter (c + 1) n) l l3) : NextItem Z A it l (.int c) l3 := by
  rintro s Q' X hs hQ
  obtain ⟨_, ob, ho, rfl⟩ := hs.obj U.mem
  refine wpAny_pyNext_range_item (x := c) (left := ((n + 1 : Nat) : Int)) (step := 1) ho (by omega) (fun h' hit hB => ?_)
  rw [show ((n + 1 : Nat) : Int) - 1 = (n : Int) by omega] at hit
  exact hQ (.int c _) _ rfl (hs.up (tk := s.toks + 1) U (fun b hb o e => (hB.2 b hb).trans e) hit rfl)
theorem end_range {it : Addr} {c : Int} {l3 : Led} (hh : A.handled = none) (hit : (it, .riter c 0) ∈ l) (hr : Rm it l l3) (hl : l3 ≠ []) : NextEnd Z A it l l3 := by
  rintro s Q' X hs hQ
  obtain ⟨_, ob, ho, rfl⟩ := hs.obj hit
  exact wpAny_pyNext_range_end hh (x := c) (left := ((0 : Nat) : Int)) (step := 1) ho (by omega) (fun h' hB => hQ _ (hs.rm (tk := s.toks) hr hB hl))
inductive Dot (Inv : Nat → Led → Prop) (n : Nat) (l : Led) : Prop
  | mk (m : Nat) (l' : Led) (hm : m < n) (hs : Sb l' l) (q : Inv m l')
inductive EndK (Z : Amb) (A : Around) (it : Addr) (l : Led) (F : Led → Prop) : Prop
  | mk (l4 : Led) (h : NextEnd Z A it l l4) (q : F l4)
inductive ItemK (Z : Amb) (A : Around) (it : Addr) (l : Led) (T : Value → Sem Unit) (K : Led → Prop) : Prop
  | mk (v : AV) (l4 : Led) (h : NextItem Z A it l v l4) (q : ST Z A T v l4 K noX)
inductive TurnK (Z : Amb) (A : Around) (it : Addr) (l : Led) (F : Led → Prop) (T : Value → Sem Unit) (K : Led → Prop) : Prop
  | inl (h : EndK Z A it l F)
  | inr (h : ItemK Z A it l T K)
noncomputable def Turn (Inv : Nat → Led → Prop) (n : Nat) (Q : AFlow → Led → Prop) : AFlow → Led → Prop
  | .next, l | .cont, l => Dot Inv n l
  | .brk, l => Q .next l
  | .ret v, l => Q (.ret v) l
inductive ForK (Z : Amb) (A : Around) (env : Env) (x : Str) (body : List Stmt) (Q : AFlow → Led → Prop) (it : Addr) (l : Led) : Prop
  | mk (Inv : Nat → Led → Prop) (n : Nat) (h0 : Inv n l) (turn : ∀ n l3, Inv n l3 → TurnK Z A it l3 (Q .next) (storeName env x) (fun l5 => SV Z A env body l5 (Turn Inv n Q) noX))
theorem s_for {x : Str} {px pos : Pos} {iter : Expr} {body : List Stmt} {Q : AFlow → Led → Prop}
    (h : EV Z A env iter l (fun v l1 => ITER Z A v l1 (ForK Z A env x body Q) X) X)
    (hs : ∀ x, foldedSetIterable iter env x = pure x := by intro _; rfl) : S1 Z A env (.For (.Name x px) iter body [] pos) l Q X := by
  intro s Q' h0 hQ
  refine wpAny_For (h s _ h0 fun u s1 l1 h1 g1 => g1 u rfl s1 _ h1 fun w s2 l2 h2 g2 => ?_) hs
  obtain ⟨it, e, Inv, n, hI, turn⟩ := g2
  obtain rfl := er_ref e
  refine codeAny_forLoop (fun n s => ∃ l, Sat Z l s ∧ Inv n l) (fun n s hn => ?_) n ⟨l2, h2, hI⟩
  obtain ⟨l3, h3, hI3⟩ := hn
  rcases turn n l3 hI3 with ⟨l4, hE, hq⟩ | ⟨v, l4, hN, hst⟩
  · exact hE s _ _ h3 (fun s' hs' => wpAny_execs_nil (hQ .next _ _ hs' hq))
  · refine hN s _ _ h3 (fun u s' hu hs' => ?_)
    refine wpAny_assign_Name (wpAny_mono (hst u hu s' (fun _ s5 => wpAny Z.M A (execs body env) _ _ s5) hs' (fun _ s5 l5 h5 g5 => ?_)) (fun _ _ x => x) (fun _ _ x => x.elim))
    refine wpAny_mono (g5 s5 (fun f s6 => match f with
          | .next | .cont => ∃ m, m < n ∧ ∃ l, Sat Z l s6 ∧ Inv m l
          | .brk => Q' .next s6
          | .ret v => Q' (.ret v) s6) h5 (fun f s6 l6 h6 g6 => ?_)) (fun f s6 hf => by cases f <;> exact hf) (fun _ _ x => x.elim)
    cases f with
    | next => obtain ⟨m, l7, hm, hsb, hi⟩ := g6; exact ⟨m, hm, l7, h6.subperm hsb, hi⟩
    | cont => obtain ⟨m, l7, hm, hsb, hi⟩ := g6; exact ⟨m, hm, l7, h6.subperm hsb, hi⟩
    | brk => exact hQ .next _ _ h6 g6
    | ret v => exact hQ (.ret v) _ _ h6 g6
theorem s_while {test : Expr} {body : List Stmt} {pos : Pos} {Q : AFlow → Led → Prop} (Inv : Nat → Led → Prop) (n : Nat) (h0 : Inv n l)
    (turn : ∀ n l1, Inv n l1 → TV Z A env test l1 (fun b l2 => (b = true → SV Z A env body l2 (Turn Inv n Q) noX) ∧ (b = false → Q .next l2)) noX) : S1 Z A env (.While test body [] pos) l Q X := by
  intro s Q' hs hQ
  refine wpAny_While (codeAny_whileLoop (fun n s => ∃ l, Sat Z l s ∧ Inv n l) (fun n s hn => ?_) n ⟨l, hs, h0⟩)
  obtain ⟨l1, h1, hI⟩ := hn
  refine wpAny_mono (turn n l1 hI s (fun b s2 => if b then wpAny Z.M A (execs body env) (fun f s6 => match f with
          | .next | .cont => ∃ m, m < n ∧ ∃ l, Sat Z l s6 ∧ Inv m l
          | .brk => Q' .next s6
          | .ret v => Q' (.ret v) s6) (fun _ _ => False) s2 else Q' .next s2) h1 (fun b s2 l2 h2 g2 => ?_)) (fun b s2 hb => ?_) (fun _ _ x => x.elim)
  · cases b with
    | true =>
      refine g2.1 rfl s2 _ h2 (fun f s6 l6 h6 g6 => ?_)
      cases f with
      | next => obtain ⟨m, l7, hm, hsb, hi⟩ := g6; exact ⟨m, hm, l7, h6.subperm hsb, hi⟩
      | cont => obtain ⟨m, l7, hm, hsb, hi⟩ := g6; exact ⟨m, hm, l7, h6.subperm hsb, hi⟩
      | brk => exact hQ .next _ _ h6 g6
      | ret v => exact hQ (.ret v) _ _ h6 g6
    | false => exact hQ .next _ _ h2 (g2.2 rfl)
  · cases b with
    | true => exact wpAny_mono hb (fun f s6 hf => by cases f <;> exact hf) (fun _ _ x => x.elim)
    | false => exact wpAny_execs_nil hb
end
section
variable {Z : Amb} {A : Around} {env : Env} {l l' : Led} {X : Value → Shared → Prop} {L : Addr} {names : List (Str × NameKind)} {cells : List (Str × Addr)}
theorem EnvIs.block (hE : EnvIs env L names cells) : env.blockKind = .function := by
  unfold Env.blockKind
  rw [hE.kind]; rfl
theorem unpacked {t : Addr} {xs : List AV} {n : Nat} {Q' : List Value → Shared → Prop} {s : Shared} (hh : A.handled = none) (hs : Sat Z l s) (ht : (t, .tuple xs) ∈ l ∨ (t, .list xs) ∈ l) (hn : xs.length = n)
    (h : ∀ vs s', vs.map er = xs → Sat Z l s' → Q' vs s') : wpAny Z.M A (unpackItems (.ref t) n none) Q' X s := by
  subst hn
  rcases ht with ht | ht
  · obtain ⟨vs, n, h1, rfl⟩ := hs.tupAt ht
    have := wpAny_unpackItems_tuple (prog := Z.prog) (w := Z.w) (A := A) (E := X) (s := s) (t := t) (items := vs) (Q := Q') hh ⟨_, h1, rfl, n, rfl⟩ (fun h' hB => h _ _ rfl (hs.ext (tk := s.toks) fun b o e => hB b o (Nat.ne_of_lt (Heap.lt_size e)) e))
    simpa using this
  · obtain ⟨vs, n, h1, rfl⟩ := hs.listAt ht
    have := kun_itemsOf (prog := Z.prog) (w := Z.w) (A := A) (E := X) (s := s) (l := t) (items := vs) (Q := Q') hh h1.isList (fun h' hB => h _ _ rfl (hs.ext (tk := s.toks) fun b o e => hB b o (Nat.ne_of_lt (Heap.lt_size e)) e))
    simpa using this
theorem two_of {vs : List Value} {a b : AV} (e : vs.map er = [a, b]) : ∃ u v, vs = [u, v] ∧ er u = a ∧ er v = b := by
  cases vs with
  | nil => simp at e
  | cons u r => cases r with
    | nil => simp at e
    | cons v r => cases r with
      | nil => simp at e; exact ⟨u, v, rfl, e.1, e.2⟩
      | cons _ _ => simp at e
theorem three_of {vs : List Value} {a b c : AV} (e : vs.map er = [a, b, c]) : ∃ u v w, vs = [u, v, w] ∧ er u = a ∧ er v = b ∧ er w = c := by
  cases vs with
  | nil => simp at e
  | cons u r =>
    simp only [List.map_cons, List.cons.injEq] at e
    obtain ⟨v, w, rfl, h1, h2⟩ := two_of e.2
    exact ⟨u, v, w, rfl, e.1, h1, h2⟩
noncomputable def starB : Expr → Bool
  | .Starred .. => true
  | _ => false
noncomputable def locName (env : Env) (line : Nat) : Expr → Option Str
  | .Name id pos => if env.kindOf id == some .local && pos.line == line then some id else none
  | _ => none
theorem sw_gen {ts vs : List Expr} {ns : List Str} {k k2 : Nat} {tp vp : Pos} (h1 : (!(ts.length == 2 || ts.length == 3) || vs.length != ts.length || env.blockKind != .function) = false)
    (h2 : vs.any starB = false) (hn : ts.filterMap (locName env ((ts.head?.map (·.pos.line)).getD 0)) = ns) (h3 : (ns.length != ts.length || ns.eraseDups.length != ns.length) = false)
    (hf : vs.all (foldedForSure 8) = false) (hc : vs.all (constantsAlone 8) = false) : swappedStores [.Tuple ts k tp] (.Tuple vs k2 vp) env = pure (some ns) := by
  subst hn
  unfold swappedStores
  refine (if_neg (fun h => ?_)).trans ((if_neg (fun h => ?_)).trans ((if_neg (fun h => ?_)).trans ((if_neg (fun h => ?_)).trans ((if_neg (fun h => ?_)).trans rfl))))
  · exact absurd (h1.symm.trans h) Bool.false_ne_true
  · exact absurd (h2.symm.trans h) Bool.false_ne_true
  · exact absurd (h3.symm.trans h) Bool.false_ne_true
  · exact absurd (hf.symm.trans h) Bool.false_ne_true
  · exact absurd (hc.symm.trans h) Bool.false_ne_true
theorem locName_of {x : Str} {px : Pos} {n : Nat} (hE : EnvIs env L names cells) (hx : (x, NameKind.local) ∈ names) (hl : (px.line == n) = true) : locName env n (.Name x px) = some x := by
  show (if (env.kindOf x == some .local && px.line == n) = true then some x else none) = some x
  rw [hE.knd _ hx, hl]; rfl
theorem swap2 {x y : Str} {px py tp vp : Pos} {k k2 : Nat} {e1 e2 : Expr} (hE : EnvIs env L names cells) (hx : (x, NameKind.local) ∈ names) (hy : (y, NameKind.local) ∈ names) (hxy : x ≠ y) (hl : (px.line == py.line) = true)
    (h1 : starB e1 = false) (h2 : starB e2 = false) (hf : (foldedForSure 8 e1 && foldedForSure 8 e2) = false) (hc : (constantsAlone 8 e1 && constantsAlone 8 e2) = false) :
    swappedStores [.Tuple [.Name x px, .Name y py] k tp] (.Tuple [e1, e2] k2 vp) env = pure (some [x, y]) := by
  have hxy' : ¬ y = x := fun e => hxy e.symm
  refine sw_gen (by rw [hE.block]; rfl) (by rw [List.any_cons, List.any_cons, h1, h2]; rfl) ?_ (by simp [List.eraseDups_cons, hxy']) (by rw [List.all_cons, List.all_cons, List.all_nil, Bool.and_true]; exact hf) (by rw [List.all_cons, List.all_cons, List.all_nil, Bool.and_true]; exact hc)
  rw [List.filterMap_cons_some (locName_of hE hx (by exact beq_self_eq_true _)), List.filterMap_cons_some (locName_of hE hy (by rw [beq_iff_eq] at hl ⊢; exact hl.symm)), List.filterMap_nil]
theorem swap3 {x y z : Str} {px py pz tp vp : Pos} {k k2 : Nat} {e1 e2 e3 : Expr} (hE : EnvIs env L names cells) (hx : (x, NameKind.local) ∈ names) (hy : (y, NameKind.local) ∈ names) (hz : (z, NameKind.local) ∈ names) (hxy : x ≠ y) (hxz : x ≠ z) (hyz : y ≠ z) (hl : (px.line == py.line) = true) (hl2 : (px.line == pz.line) = true)
    (h1 : starB e1 = false) (h2 : starB e2 = false) (h3 : starB e3 = false) (hf : (foldedForSure 8 e1 && (foldedForSure 8 e2 && foldedForSure 8 e3)) = false) (hc : (constantsAlone 8 e1 && (constantsAlone 8 e2 && constantsAlone 8 e3)) = false) :
    swappedStores [.Tuple [.Name x px, .Name y py, .Name z pz] k tp] (.Tuple [e1, e2, e3] k2 vp) env = pure (some [x, y, z]) := by
  have hxy' : ¬ y = x := fun e => hxy e.symm
  have hxz' : ¬ z = x := fun e => hxz e.symm
  have hyz' : ¬ z = y := fun e => hyz e.symm
  refine sw_gen (by rw [hE.block]; rfl) (by rw [List.any_cons, List.any_cons, List.any_cons, h1, h2, h3]; rfl) ?_ (by simp [List.eraseDups_cons, hxy', hxz', hyz']) (by rw [List.all_cons, List.all_cons, List.all_cons, List.all_nil, Bool.and_true]; exact hf) (by rw [List.all_cons, List.all_cons, List.all_cons, List.all_nil, Bool.and_true]; exact hc)
  rw [List.filterMap_cons_some (locName_of hE hx (by exact beq_self_eq_true _)), List.filterMap_cons_some (locName_of hE hy (by rw [beq_iff_eq] at hl ⊢; exact hl.symm)), List.filterMap_cons_some (locName_of hE hz (by rw [beq_iff_eq] at hl2 ⊢; exact hl2.symm)), List.filterMap_nil]
inductive Tup2K (K : AV → AV → Led → Prop) (v : AV) (l : Led) : Prop
  | mk (t : Addr) (a b : AV) (e : v = .ref t) (h : (t, .tuple [a, b]) ∈ l) (q : K a b l)
inductive Tup3K (K : AV → AV → AV → Led → Prop) (v : AV) (l : Led) : Prop
  | mk (t : Addr) (a b c : AV) (e : v = .ref t) (h : (t, .tuple [a, b, c]) ∈ l) (q : K a b c l)
inductive Unp2K (K : AV → AV → Led → Prop) (v : AV) (l : Led) : Prop
  | mk (t : Addr) (a b : AV) (e : v = .ref t) (h : (t, .tuple [a, b]) ∈ l ∨ (t, .list [a, b]) ∈ l) (q : K a b l)
theorem s_tup2 {x y : Str} {px py tp vp pos : Pos} {k k2 : Nat} {e1 e2 : Expr} {Q : AFlow → Led → Prop} (hE : EnvIs env L names cells) (hA : A.handled = none) (hx : (x, NameKind.local) ∈ names) (hy : (y, NameKind.local) ∈ names)
    (h : EV Z A env (.Tuple [e1, e2] k2 vp) l (Tup2K fun a b l1 => ST Z A (storeName env y) b l1 (fun l2 => ST Z A (storeName env x) a l2 (Q .next) X) X) X)
    (hxy : x ≠ y := by decide) (hl : (px.line == py.line) = true := by rfl) (h1 : starB e1 = false := by rfl) (h2 : starB e2 = false := by rfl) (hf : (foldedForSure 8 e1 && foldedForSure 8 e2) = false := by rfl) (hc : (constantsAlone 8 e1 && constantsAlone 8 e2) = false := by rfl)
    (hsw : swapsWithSole [.Tuple [.Name x px, .Name y py] k tp] (.Tuple [e1, e2] k2 vp) pos.line env = pure false := by rfl) :
    S1 Z A env (.Assign [.Tuple [.Name x px, .Name y py] k tp] (.Tuple [e1, e2] k2 vp) pos) l Q X := by
  intro s Q' hs hQ
  refine Assign_Tuple_swapped (h s _ hs fun v s1 l1 hs1 g1 => ?_) hsw (swap2 hE hx hy hxy hl h1 h2 hf hc)
  obtain ⟨t, a, b, e, ht, g⟩ := g1
  obtain rfl := er_ref e
  refine unpacked hA hs1 (.inl ht) rfl (fun vs s2 e2 hs2 => ?_)
  obtain ⟨u, v, rfl, rfl, rfl⟩ := two_of e2
  show wpAny Z.M A (assignInOrder [bindName env y, bindName env x] [v, u]) _ _ s2
  unfold assignInOrder
  refine wpAny_bind (wpAny_holding (wpAny_bindName (g v rfl s2 _ hs2 (fun _ s3 l3 hs3 g3 => ?_))))
  unfold assignInOrder
  refine wpAny_bind (wpAny_holding (wpAny_bindName (g3 u rfl s3 _ hs3 (fun _ s4 l4 hs4 g4 => ?_))))
  exact wpAny_pure (hQ .next _ _ hs4 g4)
theorem s_tup3 {x y z : Str} {px py pz tp vp pos : Pos} {k k2 : Nat} {e1 e2 e3 : Expr} {Q : AFlow → Led → Prop} (hE : EnvIs env L names cells) (hA : A.handled = none) (hx : (x, NameKind.local) ∈ names) (hy : (y, NameKind.local) ∈ names) (hz : (z, NameKind.local) ∈ names)
    (h : EV Z A env (.Tuple [e1, e2, e3] k2 vp) l (Tup3K fun a b c l1 => ST Z A (storeName env z) c l1 (fun l2 => ST Z A (storeName env y) b l2 (fun l3 => ST Z A (storeName env x) a l3 (Q .next) X) X) X) X)
    (hxy : x ≠ y := by decide) (hxz : x ≠ z := by decide) (hyz : y ≠ z := by decide) (hl : (px.line == py.line) = true := by rfl) (hl2 : (px.line == pz.line) = true := by rfl) (h1 : starB e1 = false := by rfl) (h2 : starB e2 = false := by rfl) (h3 : starB e3 = false := by rfl)
    (hf : (foldedForSure 8 e1 && (foldedForSure 8 e2 && foldedForSure 8 e3)) = false := by rfl) (hc : (constantsAlone 8 e1 && (constantsAlone 8 e2 && constantsAlone 8 e3)) = false := by rfl)
    (hsw : swapsWithSole [.Tuple [.Name x px, .Name y py, .Name z pz] k tp] (.Tuple [e1, e2, e3] k2 vp) pos.line env = pure false := by rfl) :
    S1 Z A env (.Assign [.Tuple [.Name x px, .Name y py, .Name z pz] k tp] (.Tuple [e1, e2, e3] k2 vp) pos) l Q X := by
  intro s Q' hs hQ
  refine Assign_Tuple_swapped (h s _ hs fun v s1 l1 hs1 g1 => ?_) hsw (swap3 hE hx hy hz hxy hxz hyz hl hl2 h1 h2 h3 hf hc)
  obtain ⟨t, a, b, c, e, ht, g⟩ := g1
  obtain rfl := er_ref e
  refine unpacked hA hs1 (.inl ht) rfl (fun vs s2 e2 hs2 => ?_)
  obtain ⟨u, v, w, rfl, rfl, rfl, rfl⟩ := three_of e2
  show wpAny Z.M A (assignInOrder [bindName env z, bindName env y, bindName env x] [w, v, u]) _ _ s2
  unfold assignInOrder
  refine wpAny_bind (wpAny_holding (wpAny_bindName (g w rfl s2 _ hs2 (fun _ s3 l3 hs3 g3 => ?_))))
  unfold assignInOrder
  refine wpAny_bind (wpAny_holding (wpAny_bindName (g3 v rfl s3 _ hs3 (fun _ s4 l4 hs4 g4 => ?_))))
  unfold assignInOrder
  refine wpAny_bind (wpAny_holding (wpAny_bindName (g4 u rfl s4 _ hs4 (fun _ s5 l5 hs5 g5 => ?_))))
  exact wpAny_pure (hQ .next _ _ hs5 g5)
theorem s_unp2 {x y : Str} {px py tp pos : Pos} {k : Nat} {e : Expr} {Q : AFlow → Led → Prop} (hA : A.handled = none)
    (h : EV Z A env e l (Unp2K fun a b l1 => ST Z A (storeName env x) a l1 (fun l2 => ST Z A (storeName env y) b l2 (Q .next) X) X) X)
    (hs : swapsWithSole [.Tuple [.Name x px, .Name y py] k tp] e pos.line env = pure false := by rfl) (hw : swappedStores [.Tuple [.Name x px, .Name y py] k tp] e env = pure none := by rfl) :
    S1 Z A env (.Assign [.Tuple [.Name x px, .Name y py] k tp] e pos) l Q X := by
  intro s Q' h0 hQ
  refine Assign_Tuple (h s _ h0 fun v s1 l1 hs1 g1 => ?_) hs hw
  obtain ⟨t, a, b, e, ht, g⟩ := g1
  obtain rfl := er_ref e
  rw [assign_Tuple]
  refine wpAny_bind (wpAny_standAt ?_)
  unfold unpack
  refine wpAny_bind (wpAny_holding (unpacked (n := 2) hA hs1 ht rfl (fun vs s2 e2 hs2 => ?_)))
  obtain ⟨u, v, rfl, rfl, rfl⟩ := two_of e2
  show wpAny Z.M A (assignInOrder [assign (.Name x px) env, assign (.Name y py) env] [u, v]) _ _ s2
  unfold assignInOrder
  refine wpAny_bind (wpAny_holding (wpAny_assign_Name (g u rfl s2 _ hs2 (fun _ s3 l3 hs3 g3 => ?_))))
  unfold assignInOrder
  refine wpAny_bind (wpAny_holding (wpAny_assign_Name (g3 v rfl s3 _ hs3 (fun _ s4 l4 hs4 g4 => ?_))))
  exact wpAny_pure (hQ .next _ _ hs4 g4)
end
section
variable {Z : Amb} {A : Around} {env : Env} {l l' : Led} {X : Value → Shared → Prop} {L : Addr} {names : List (Str × NameKind)} {cells : List (Str × Addr)}
theorem wpEq {α : Type} {M : Model} {t u : Sem α} {Q : α → Shared → Prop} {E : Value → Shared → Prop} {s : Shared} (h : t = u) (hw : wpAny M A u Q E s) : wpAny M A t Q E s := h ▸ hw
theorem testChain1 (pos : Pos) (left : Value) (op : CmpOp) (r : Sem Value) : testChain pos left [op] [r] = (do
    let rv ← holding [left] r
    standAt pos
    let c ← operate [left, rv] (compareOp op left rv)
    holding [c] (truthy c)) := rfl
theorem testChain2 (pos : Pos) (left : Value) (op op2 : CmpOp) (r r2 : Sem Value) : testChain pos left [op, op2] [r, r2] = (do
    let rv ← holding [left] r
    standAt pos
    let c ← holding [left, rv] (compareOp op left rv)
    release [left, rv] [c]
    if ← holding [c, rv] (truthy c) then testChain pos rv [op2] [r2] else pure false) := rfl
theorem t_chain2 {a b c : Expr} {op op2 : CmpOp} {pos : Pos} {Q : Bool → Led → Prop}
    (h : EV Z A env a l (fun va l1 => EV Z A env b l1 (fun vb l2 => CP Z A op va vb l2 (fun x l3 => (x = false → Q false l3) ∧ (x = true → EV Z A env c l3 (fun vc l4 => CP Z A op2 vb vc l4 Q X) X)) X) X) X)
    (hm : lastMarks [op, op2] [b, c] = false := by with_unfolding_all rfl) : TV Z A env (.Compare a [op, op2] [b, c] pos) l Q X := by
  intro s Q' hs hQ
  refine isTrue_chain (h s _ hs fun va s1 l1 h1 g1 => ?_) hm
  refine wpEq (testChain2 _ _ _ _ _ _) ?_
  refine wpAny_bind (wpAny_holding (g1 s1 _ h1 fun vb s2 l2 h2 g2 => wpAny_bind (wpAny_standAt (wpAny_bind (wpAny_holding (g2 va vb rfl rfl s2 _ h2 fun v s3 l3 h3 g3 => ?_))))))
  obtain ⟨x, hx, g4, g5⟩ := g3
  rw [er_bool hx]
  refine wpAny_bind (wpAny_release' (wpAny_bind (wpAny_holding (wpAny_truthy_bool ?_))))
  cases x with
  | false => exact wpAny_pure (hQ false _ _ h3 (g4 rfl))
  | true =>
    refine wpEq (testChain1 _ _ _ _) ?_
    refine wpAny_bind (wpAny_holding (g5 rfl s3 _ h3 fun vc s4 l4 h4 g6 => wpAny_bind (wpAny_standAt (wpAny_bind (wpAny_operate' (g6 vb vc rfl rfl s4 _ h4 fun v s5 l5 h5 g7 => ?_))))))
    obtain ⟨y, hy, g8⟩ := g7
    rw [er_bool hy]
    exact wpAny_holding (wpAny_truthy_bool (hQ y _ _ h5 g8))
noncomputable def IFS (Z : Amb) (A : Around) (env : Env) (ifs : List Expr) (l : Led) (Q : Bool → Led → Prop) (X : Value → Shared → Prop) : Prop :=
  TR Z A (forIn ifs true fun c r => if r = true then do let ok ← isTrue c env (eval c env); pure (ForInStep.yield ok) else pure (ForInStep.yield r)) id l Q X
theorem ifs_nil {Q : Bool → Led → Prop} (h : Q true l) : IFS Z A env [] l Q X := fun s Q' hs hQ => wpAny_tests_nil (hQ true _ _ hs h)
theorem ifs_one {c : Expr} {Q : Bool → Led → Prop} (h : TV Z A env c l Q X) : IFS Z A env [c] l Q X := fun s Q' hs hQ => wpAny_tests_one (h s _ hs hQ)
noncomputable def CTurn (Z : Amb) (A : Around) (env : Env) (x : Str) (ifs : List Expr) (elt : Expr) (it D : Addr) (Inv : Nat → Led → Prop) (Fin : Led → Prop) : Prop :=
  ∀ n l3, Inv n l3 → TurnK Z A it l3 Fin (storeName env x) (fun l5 => IFS Z A env ifs l5 (fun b l6 => (b = true → EV Z A env elt l6 (AppK D (Dot Inv n)) noX) ∧ (b = false → Dot Inv n l6)) noX)
inductive CompK (Z : Amb) (A : Around) (env : Env) (x : Str) (ifs : List Expr) (elt : Expr) (it D : Addr) (Fin : Led → Prop) (l : Led) : Prop
  | mk (Inv : Nat → Led → Prop) (n : Nat) (h0 : Inv n l) (turn : CTurn Z A env x ifs elt it D Inv Fin)
theorem loop_comp {elt iter : Expr} {x : Str} {px : Pos} {ifs : List Expr} {scope : Scope} {pos : Pos} {it D : Addr} {cenv : Env} {Inv : Nat → Led → Prop} {Fin : Led → Prop} {R : Result → Shared → Prop} {n : Nat} {s : Shared}
    (hs : Sat Z l s) (hI : Inv n l) (ht : CTurn Z A cenv x ifs elt it D Inv Fin) (hR : ∀ s l, Sat Z l s → Fin l → R (.ok .next) s) :
    codeAny Z.M A (.compLoop (.ListComp elt [⟨.Name x px, iter, ifs, 0⟩] scope pos) 0 (.ref it) (.ref D) cenv) R s := by
  refine codeAny_compLoop_tests (fun n s => ∃ l, Sat Z l s ∧ Inv n l) (fun n s hn => ?_) n ⟨l, hs, hI⟩
  obtain ⟨l3, h3, hI⟩ := hn
  rcases ht n l3 hI with ⟨l4, hN, hF⟩ | ⟨v, l4, hN, hst⟩
  · exact hN s _ _ h3 fun s' h' => hR _ _ h' hF
  · refine hN s _ _ h3 fun u s4 e h4 => ?_
    refine wpAny_assign_Name (wpAny_mono (hst u e s4 _ h4 fun _ s5 l5 h5 g5 => wpAny_mono (g5 s5 _ h5 fun b s6 l6 h6 g6 => ?_) (fun _ _ q => q) (fun _ _ q => q.elim)) (fun _ _ q => q) (fun _ _ q => q.elim))
    cases b with
    | false =>
      obtain ⟨m, l7, hm, hsb, hi⟩ := g6.2 rfl
      exact ⟨m, hm, l7, h6.subperm hsb, hi⟩
    | true =>
      simp only [if_true]
      refine wpAny_mono (g6.1 rfl s6 _ h6 fun u s7 l7 h7 g7 => ?_) (fun _ _ q => q) (fun _ _ q => q.elim)
      obtain ⟨xs, l8, U, hz, m, l9, hm, hsb, hi⟩ := g7
      obtain ⟨its, k, hL, rfl⟩ := h7.listAt U.mem
      refine append_at (n := k) hL (fun h' hB ho => ⟨m, hm, l9, Sat.subperm (h7.up (tk := s7.toks) U (fun b hb o e => (hB.2 b hb).trans e) ho ⟨_, _, rfl, by simp⟩) hsb, hi⟩) (by simp only [List.length_map, Array.length_toList] at hz; exact Nat.le_trans hz (by decide))
noncomputable def SELF (Z : Amb) (A : Around) (it : Addr) (l : Led) : Prop := ∀ s Q' X, Sat Z l s → Q' (.ref it) s → wpAny Z.M A (pyIter (.ref it)) Q' X s
theorem self_list {it a : Addr} {i : Nat} (h : (it, .liter a i) ∈ l) : SELF Z A it l := by
  intro s Q' X hs hQ
  obtain ⟨_, ob, ho, h1, h2⟩ := hs.obj h
  exact wpAny_pyIter_listiter ⟨ob, ho, h1, h2⟩ hQ
theorem self_dict {it d : Addr} {i n ep : Nat} (h : (it, .kiter d i n ep) ∈ l) : SELF Z A it l := by
  intro s Q' X hs hQ
  obtain ⟨_, ob, ho, h1, h2⟩ := hs.obj h
  exact wpAny_pyIter_keyiter ⟨ob, ho, h1, h2⟩ hQ
theorem comp_block {elt iter : Expr} {x : Str} {px : Pos} {ifs : List Expr} {scope : Scope} {cl : List (Str × Addr)} {pos : Pos} {it : Addr} {RR : Value → Addr → Result → Shared → Prop} {s : Shared} {m : List (Str × Option AV)} {names' : List (Str × NameKind)} {E : Value → Shared → Prop}
    (hE : EnvIs env L names cells) (hcell : ∀ y ∈ scope.names, y.2 ≠ .cell) (hkind : scope.kind = .function) (hN : ∀ y ∈ names', (relabel scope env).names.lookup y.1 = some y.2)
    (hmn : (m.map (·.1)).Nodup) (hm0 : ∀ p ∈ m, p.2 = none) (hs : Sat Z l s)
    (hself : ∀ l2, l.Sublist l2 → SELF Z A it l2)
    (h : ∀ C D cenv, EnvIs cenv C names' cl → ∃ (Inv : Nat → Led → Prop) (Fin : Led → Prop) (n : Nat), Inv n ((C, .frame m) :: (D, .list []) :: l) ∧ CTurn Z A cenv x ifs elt it D Inv Fin ∧ ∀ s l, Sat Z l s → Fin l → RR (.ref D) C (.ok .next) s)
    (hcl : ∀ x ∈ cl, cl.lookup x.1 = some x.2) :
    wpAny Z.M A (newList []) (fun acc s₃ => wpAny Z.M A (newFunctionEnv scope env.globals cl [] env.qual none .none (some env)) (fun cenv s₄ =>
      codeAny Z.M A (.compStart (.ListComp elt [⟨.Name x px, iter, ifs, 0⟩] scope pos) 0 (.ref it) acc { cenv with scope := relabel scope env }) (RR acc cenv.locals) s₄) E s₃) E s := by
  have hD : Sat Z ((s.heap.objs.size, .list []) :: l) { s with heap := s.heap.push { cls := .type "list", dict := none, data := .seq ([] : List Value).toArray } } :=
    hs.new (tk := s.toks) (fun b o e => Heap.get?_push_of_some _ e) (Nat.le_refl _) (Heap.get?_push_size _ rfl) ⟨_, 0, rfl, rfl⟩
  refine wpAny_newObj_type (wpAny_newFunctionEnv hcell (by intro y hy; simp at hy) (fun h₁ hns₁ hsb₁ => ?_) hkind)
  generalize hH2 : s.heap.push { cls := .type "list", dict := none, data := .seq ([] : List Value).toArray } = H2 at hns₁ hsb₁ hD ⊢
  have hC : Sat Z ((H2.objs.size, .frame m) :: (s.heap.objs.size, .list []) :: l) { { s with heap := H2 } with heap := h₁, toks := s.toks + ([] : List (Str × Value)).length } := by
    obtain ⟨ob, es, ep, h1, h2, h3, h4⟩ := hns₁
    refine hD.new (fun b o e => hsb₁.extBut b o (Nat.ne_of_lt (Heap.lt_size e)) (Heap.get?_push_of_some _ e)) (Nat.le_refl _) h1 ⟨hmn, es, ep, h2, h3, fun y => ?_⟩
    rw [h4]
    show _ = look m y
    unfold look
    cases e : m.lookup y with
    | none => rfl
    | some v =>
      have : v = none := by
        have : (y, v) ∈ m := by
          clear hmn hm0 h
          induction m with
          | nil => simp at e
          | cons p r ih =>
            obtain ⟨z, u⟩ := p
            rw [List.lookup_cons] at e
            split at e
            · rename_i hz
              cases e
              rw [eq_of_beq hz]; exact .head _
            · exact .tail _ (ih e)
        exact hm0 _ this
      subst this; rfl
  have hEc : EnvIs (compEnvC scope cl H2.objs.size env) H2.objs.size names' cl := ⟨hkind, rfl, hE.glob, hE.blt, hN, hcl⟩
  obtain ⟨Inv, Fin, n, hI, ht, hR⟩ := h H2.objs.size s.heap.objs.size _ hEc
  have loop : codeAny Z.M A (.compLoop (.ListComp elt [⟨.Name x px, iter, ifs, 0⟩] scope pos) 0 (.ref it) (.ref s.heap.objs.size) (compEnvC scope cl H2.objs.size env)) (RR (.ref s.heap.objs.size) H2.objs.size) { { s with heap := H2 } with heap := h₁, toks := s.toks + ([] : List (Str × Value)).length } :=
    loop_comp hC hI ht fun s l hs hf => hR s l hs hf
  exact codeAny_compStart_list loop (hself _ ((List.sublist_cons_self _ _).trans (List.sublist_cons_self _ _)) _ _ _ hC loop)
inductive CFin (C D : Addr) (Q : AV → Led → Prop) (l : Led) : Prop
  | mk (m : List (Str × Option AV)) (l2 : Led) (h : (C, .frame m) ∈ l) (hr : Rm C l l2) (hn : l2 ≠ []) (q : Q (.ref D) l2)
theorem ns_of_frame {s : Shared} {C : Addr} {m : List (Str × Option AV)} (hs : Sat Z l s) (h : (C, .frame m) ∈ l) : ∃ f, s.heap.Ns C f := by
  obtain ⟨_, ob, ho, hn, es, ep, hd', hsk, hl⟩ := hs.obj h
  exact ⟨_, ob, es, ep, ho, hd', hsk, fun _ => rfl⟩
theorem r_comp {elt iter : Expr} {x : Str} {px : Pos} {ifs : List Expr} {scope : Scope} {cl : List (Str × Addr)} {pos : Pos} {m : List (Str × Option AV)} {names' : List (Str × NameKind)} {Q : AV → Led → Prop}
    (hE : EnvIs env L names cells) (hclos : closureFor scope env = pure cl) (hN : ∀ y ∈ names', (relabel scope env).names.lookup y.1 = some y.2) (hcl : ∀ x ∈ cl, cl.lookup x.1 = some x.2)
    (hsc : ((scope.names.all fun y => decide (y.2 ≠ .cell)) && decide (scope.kind = .function) && (scope.names.all fun y => y.2 != .local || decide (scope.names.lookup y.1 = some .local)) && decide (m.map (·.1)).Nodup && (m.all fun p => p.2.isNone)) = true)
    (h : EV Z A env iter l (fun v l1 => ITER Z A v l1 (fun it l2 => (∀ l3, l2.Sublist l3 → SELF Z A it l3) ∧
      ∀ C D cenv, EnvIs cenv C names' cl → CompK Z A cenv x ifs elt it D (CFin C D Q) ((C, .frame m) :: (D, .list []) :: l2)) X) X)
    (hfs : ∀ x, foldedSetIterable iter env x = pure x := by intro _; rfl) :
    EV Z A env (.ListComp elt [⟨.Name x px, iter, ifs, 0⟩] scope pos) l Q X := by
  intro s Q' hs hQ
  simp only [Bool.and_eq_true, decide_eq_true_eq, List.all_eq_true, Bool.or_eq_true, bne_iff_ne, ne_eq, Option.isNone_iff_eq_none] at hsc
  obtain ⟨⟨⟨⟨c1, c2⟩, c3⟩, c4⟩, c5⟩ := hsc
  show wpAny Z.M A (eval (.ListComp elt [⟨.Name x px, iter, ifs, 0⟩] scope pos) env) Q' X s
  rw [eval_ListComp]
  refine wpAny_comprehension_free (use := none) rfl hfs hclos c2 (fun y hy e => (c3 y hy).resolve_left (fun q => q e)) (h s _ hs fun v s1 l1 h1 g1 => g1 v rfl s1 _ h1 fun w s2 l2 h2 g2 => ?_)
  obtain ⟨it, e, hself, hh⟩ := g2
  obtain rfl := er_ref e
  refine comp_block (RR := fun acc C => compPost Z.M A X none Q' acc C) hE c1 c2 hN c4 c5 h2 hself (fun C D cenv hEc => ?_) hcl
  obtain ⟨Inv, n, hI, ht⟩ := hh C D cenv hEc
  refine ⟨Inv, _, n, hI, ht, fun s3 l3 h3 hf => ?_⟩
  obtain ⟨m', l4, hm', hr, hne, hq⟩ := hf
  obtain ⟨f, hns⟩ := ns_of_frame h3 hm'
  exact ⟨f, hns, fun h' hB => hQ (.ref D) _ _ (h3.rm (tk := s3.toks) hr hB.extBut hne) hq⟩
theorem s_comp {elt iter : Expr} {x y : Str} {px py : Pos} {ifs : List Expr} {scope : Scope} {cl : List (Str × Addr)} {pos spos : Pos} {m : List (Str × Option AV)} {names' : List (Str × NameKind)} {Q : AFlow → Led → Prop}
    (hE : EnvIs env L names cells) (hsw : swapsWith (.ListComp elt [⟨.Name x px, iter, ifs, 0⟩] scope pos) (some (.Name y py)) spos.line env = pure true)
    (hclos : closureFor scope env = pure cl) (hN : ∀ y ∈ names', (relabel scope env).names.lookup y.1 = some y.2) (hcl : ∀ x ∈ cl, cl.lookup x.1 = some x.2)
    (hsc : ((scope.names.all fun y => decide (y.2 ≠ .cell)) && decide (scope.kind = .function) && (scope.names.all fun y => y.2 != .local || decide (scope.names.lookup y.1 = some .local)) && decide (m.map (·.1)).Nodup && (m.all fun p => p.2.isNone)) = true)
    (h : EV Z A env iter l (fun v l1 => ITER Z A v l1 (fun it l2 => (∀ l3, l2.Sublist l3 → SELF Z A it l3) ∧
      ∀ C D cenv, EnvIs cenv C names' cl → CompK Z A cenv x ifs elt it D (fun l3 => ST Z A (storeName env y) (.ref D) l3 (CFin C D (fun _ => Q .next)) noX) ((C, .frame m) :: (D, .list []) :: l2)) X) X)
    (hfs : ∀ x, foldedSetIterable iter env x = pure x := by intro _; rfl) :
    S1 Z A env (.Assign [.Name y py] (.ListComp elt [⟨.Name x px, iter, ifs, 0⟩] scope pos) spos) l Q X := by
  intro s Q' hs hQ
  simp only [Bool.and_eq_true, decide_eq_true_eq, List.all_eq_true, Bool.or_eq_true, bne_iff_ne, ne_eq, Option.isNone_iff_eq_none] at hsc
  obtain ⟨⟨⟨⟨c1, c2⟩, c3⟩, c4⟩, c5⟩ := hsc
  show wpAny Z.M A (exec (.Assign [.Name y py] (.ListComp elt [⟨.Name x px, iter, ifs, 0⟩] scope pos) spos) env) Q' X s
  rw [exec_Assign_Name_used _ _ _ _ hsw]
  refine wpAny_bind (wpAny_standAt (wpAny_bind ?_))
  show wpAny _ A (do let _ ← comprehension (.ListComp elt [⟨.Name x px, iter, ifs, 0⟩] scope pos) scope env _ (newList []) false (eval iter env) (some (assign (.Name y py) env))) _ _ s
  refine wpAny_bind (wpAny_mono (wpAny_comprehension_free (use := some (assign (.Name y py) env)) (Q := fun _ s' => Q' .next s') rfl hfs hclos c2 (fun y hy e => (c3 y hy).resolve_left (fun q => q e)) (h s _ hs fun v s1 l1 h1 g1 => g1 v rfl s1 _ h1 fun w s2 l2 h2 g2 => ?_))
    (fun _ s' hq => wpAny_pure (wpAny_pure hq)) fun _ _ e => e)
  obtain ⟨it, e, hself, hh⟩ := g2
  obtain rfl := er_ref e
  refine comp_block (RR := fun acc C => compPost Z.M A X (some (assign (.Name y py) env)) (fun _ s' => Q' .next s') acc C) hE c1 c2 hN c4 c5 h2 hself (fun C D cenv hEc => ?_) hcl
  obtain ⟨Inv, n, hI, ht⟩ := hh C D cenv hEc
  refine ⟨Inv, _, n, hI, ht, fun s3 l3 h3 hf => ?_⟩
  show wpAny _ A (assign (.Name y py) env (.ref D)) _ _ _
  refine wpAny_assign_Name (wpAny_mono (hf (.ref D) rfl s3 _ h3 fun _ s4 l4 h4 g4 => ?_) (fun _ _ q => q) (fun _ _ q => q.elim))
  obtain ⟨m', l5, hm', hr, hne, hq⟩ := g4
  obtain ⟨f, hns⟩ := ns_of_frame h4 hm'
  exact ⟨f, hns, fun h' hB => hQ .next _ _ (h4.rm (tk := s4.toks) hr hB.extBut hne) hq⟩
end
theorem setItem_exact {prog : Program} {w : World} {A : Around} {E : Value → Shared → Prop} {s : Shared} {l : Addr} {items : Array Value} {n : Nat} {k : Int} {t : Tok} {v : Value} {Q : Unit → Shared → Prop} (ho : s.heap.get? l = some { cls := .type "list", data := .seq items n })
    (h0 : 0 ≤ k) (hfit : k < 2 ^ 63) (hn : k < items.size)
    (hQ : Q () { s with heap := s.heap.update l (Obj.mapSeq (·.setIfInBounds k.toNat v)) }) :
    wpAny (model prog w) A (setItem (.ref l) (.int k t) v) Q E s := by
  have hl : s.heap.IsList l items := ⟨_, ho, rfl, n, rfl⟩
  unfold setItem
  try with_reducible refine wpAny_holding ?_
  first | refine wpAny_bind (wpAny_pure ?_) | skip
  refine wpAny_bind (wpAny_sequenceKey hl.typeIs (by decide) ?_)
  refine wpAny_bind (wpAny_callSpecial?_slot (name := Str.ofString "__setitem__") hl.typeIs slot_list_setitem
    (wpAny_call_entry slot_list_setitem hl.typeIs entry_list_setitem ?_ (args_list_setitem _ _ _)))
  show wpAny _ _ (Builtin.List.listSubscript? (.int k t) >>= _) _ _ s
  refine wpAny_bind (wpAny_listSubscript_int (fitsIndex_of h0 hfit) ?_)
  clear hfit
  obtain ⟨j, rfl⟩ := Int.eq_ofNat_of_zero_le h0
  have hj : j < items.size := by omega
  have hx' : items[j]? = some items[j] := Array.getElem?_eq_getElem hj
  show wpAny _ _ ((seqItemAt l j >>= fun r => pure (r.map (j, ·))) >>= _) _ _ s
  refine wpAny_bind (wpAny_bind (wpAny_seqItemAt ho rfl (wpAny_pure ?_)))
  rw [hx']
  show wpAny _ _ (setSeqItemAt l j v >>= _) _ _ s
  refine wpAny_bind (wpAny_setSeqItemAt ho rfl ?_)
  first
    | exact wpAny_bind (wpAny_pure (wpAny_pure ⟨.none, rfl, wpAny_pure hQ⟩))
    | exact wpAny_pure ⟨.none, rfl, wpAny_pure hQ⟩
section
variable {Z : Amb} {A : Around} {env : Env} {l l' : Led} {X : Value → Shared → Prop} {L : Addr} {names : List (Str × NameKind)} {cells : List (Str × Addr)}
theorem si_list {a : Addr} {k : Nat} {xs : List AV} {v : AV} {Q : Led → Prop} (hk : k < xs.length) (hz : xs.length ≤ 1000) (U : Up1 a (.list xs) (.list (xs.set k v)) l l') (h : Q l') :
    ∀ vo vi, er vo = .ref a → er vi = .int k → ST Z A (setItem vo vi) v l Q X := by
  rintro vo vi e1 e2 u rfl s Q' hs hQ
  obtain rfl := er_ref e1; obtain ⟨t, rfl⟩ := er_int e2
  obtain ⟨its, n, hL, rfl⟩ := hs.listAt U.mem
  simp only [List.length_map, Array.length_toList] at hk hz
  refine setItem_exact hL (by omega) (by omega) (by omega) (hQ () _ _ (hs.up (tk := s.toks) U (fun b hb o e => (Heap.get?_update_other _ _ (Ne.symm hb)).trans e) (hL.update _) ⟨_, _, rfl, ?_⟩) h)
  simp only [Int.toNat_natCast, Array.toList_setIfInBounds, List.map_set]
noncomputable def kvAt (kvs : List (Int × AV)) (k : Int) : Option AV := (kvs.find? fun p => decide (p.1 = k)).map (·.2)
theorem valueAt_map {kvs' : List (Int × Value)} {k : Int} : (valueAt kvs' k).map er = kvAt (kvs'.map fun p => (p.1, er p.2)) k := by
  unfold valueAt kvAt
  rw [List.find?_map]
  simp only [Option.map_map]
  rfl
theorem i_dict {d : Addr} {kvs : List (Int × AV)} {ep : Nat} {k : Int} {v : AV} {Q : AV → Led → Prop} (hd : (d, .dictI kvs ep) ∈ l) (hv : kvAt kvs k = some v) (h : Q v l) : IT Z A (.ref d) (.int k) l Q X := by
  rintro vo vi e1 e2
  obtain rfl := er_ref e1; obtain ⟨t, rfl⟩ := er_int e2
  refine ⟨fun s Q' hs hQ => ?_, fun s hs => ?_⟩
  · obtain ⟨kvs', hD, rfl⟩ := hs.dictAt hd
    rw [← valueAt_map] at hv
    obtain ⟨u, hu, rfl⟩ := Option.map_eq_some_iff.mp hv
    exact wpAny_getItem_of (intKind_is _ _ _ _) hD.dictOf.mapOf hu (hQ _ _ _ (hs.tok _) h)
  · obtain ⟨kvs', hD, rfl⟩ := hs.dictAt hd
    exact ⟨"dict", _, hD.dictOf.typeIs, slot_dict_getitem.lookup⟩
theorem si_dictNew {d : Addr} {kvs : List (Int × AV)} {ep : Nat} {k : Int} {v : AV} {Q : Led → Prop} (hd : (d, .dictI kvs ep) ∈ l) (hk : k ∉ kvs.map (·.1)) (hz : kvs.length ≤ 1000)
    (h : ∀ ep', ∃ l', Up1 d (.dictI kvs ep) (.dictI (kvs ++ [(k, v)]) ep') l l' ∧ Q l') :
    ∀ vo vi, er vo = .ref d → er vi = .int k → ST Z A (setItem vo vi) v l Q X := by
  rintro vo vi e1 e2 u rfl s Q' hs hQ
  obtain rfl := er_ref e1; obtain ⟨t, rfl⟩ := er_int e2
  obtain ⟨kvs', hD, rfl⟩ := hs.dictAt hd
  rw [List.length_map] at hz
  refine wpAny_setItem_pairs (intKind_is _ _ _ _) hD.dictOf (fun h' hD' hB => ?_) (Nat.le_trans hz (by decide))
  obtain ⟨ob, es, ep', ho, h1, h2, h3, h4, h5⟩ := hD'
  have hst : stored kvs' k u = kvs' ++ [(k, u)] := by
    unfold stored
    rw [if_neg]
    intro ha
    obtain ⟨p, hp, e⟩ := List.any_eq_true.mp ha
    exact hk (List.mem_map.mpr ⟨(p.1, er p.2), List.mem_map.mpr ⟨p, hp, rfl⟩, of_decide_eq_true e⟩)
  rw [hst] at h4 h5
  obtain ⟨l2, U, hq⟩ := h ep'
  exact hQ () _ _ (hs.up (tk := s.toks + 1) U (fun b hb o e => (hB.2 b hb).trans e) ho ⟨kvs' ++ [(k, u)], es, h1, h2, h3, h4, h5, by simp⟩) hq
theorem b_lenD {d : Addr} {kvs : List (Int × AV)} {ep : Nat} {Q : AV → Led → Prop} (hd : (d, .dictI kvs ep) ∈ l) (hz : kvs.length ≤ 1000) (h : Q (.int kvs.length) l) : CL Z A (.builtin "len") [.ref d] l Q X := by
  rintro vs e s Q' hs hQ
  obtain ⟨v, rfl, e2⟩ := one_arg e
  obtain rfl := er_ref e2
  obtain ⟨kvs', hD, rfl⟩ := hs.dictAt hd
  rw [List.length_map] at hz h
  exact call_len_dict (not_sys hs hd) hD.dictOf (by omega) (hQ (.int _ _) _ _ (hs.tok _) h)
theorem b_listD {d : Addr} {kvs : List (Int × AV)} {ep : Nat} {Q : AV → Led → Prop} (hh : A.handled = none) (hd : (d, .dictI kvs ep) ∈ l) (hz : kvs.length ≤ 1000) (h : ∀ b, Q (.ref b) ((b, .list (il (kvs.map (·.1)))) :: l)) : CL Z A (.type "list") [.ref d] l Q X := by
  rintro vs e s Q' hs hQ
  obtain ⟨v, rfl, e2⟩ := one_arg e
  obtain rfl := er_ref e2
  obtain ⟨kvs', hD, rfl⟩ := hs.dictAt hd
  rw [List.length_map] at hz
  refine kdl_call (kdl_dict (knd := PySem.intKind Z.prog Z.w) (kvs := kvs') (ep := ep) (not_sys hs hd)) hh hD (Nat.le_trans hz (by decide)) (fun h' tk acc' c' hk ho hit => ?_)
  refine hQ (.ref s.heap.objs.size) _ _ (hs.new (tk := tk) (o := .list (il ((kvs'.map fun (p : Int × Value) => (p.1, er p.2)).map (fun (p : Int × AV) => p.1)))) hk (Nat.le_refl _) ho ⟨acc', c', rfl, ?_⟩) (h _)
  apply List.ext_getElem?
  intro i
  simp only [il, List.map_map, List.getElem?_map]
  by_cases hi : i < kvs'.length
  · have hi' : i < acc'.toList.length := by rw [Array.length_toList, hit.1]; exact hi
    rw [List.getElem?_eq_getElem hi, List.getElem?_eq_getElem hi']
    obtain ⟨k, x, hx, hk⟩ := hit.2 i acc'[i] (by simp)
    rw [List.getElem?_eq_getElem hi] at hx
    obtain ⟨t, ht⟩ := Value.isInt_shape hk
    simp only [Option.map_some, Array.getElem_toList, ht, er, Function.comp]
    rw [Option.some.inj hx]
  · have e1 : kvs'[i]? = none := List.getElem?_eq_none (Nat.le_of_not_lt hi)
    have e2 : acc'.toList[i]? = none := List.getElem?_eq_none (by rw [Array.length_toList, hit.1]; exact Nat.le_of_not_lt hi)
    rw [e1, e2]
    rfl
theorem r_dict2 {k1 k2 v1 v2 : Expr} {pos : Pos} {Q : AV → Led → Prop}
    (h : ∀ d, EV Z A env k1 ((d, .dictI [] 0) :: l) (fun ka l1 => EV Z A env v1 l1 (fun va l2 => EV Z A env k2 l2 (fun kb l3 => EV Z A env v2 l3 (fun vb l4 => ∃ i j, ka = .int i ∧ kb = .int j ∧ i ≠ j ∧ ∀ ep', ∃ l5, Up1 d (.dictI [] 0) (.dictI [(i, va), (j, vb)] ep') l4 l5 ∧ Q (.ref d) l5) X) X) X) X) :
    EV Z A env (.Dict [some k1, some k2] [v1, v2] pos) l Q X := by
  intro s Q' hs hQ
  have hD : Sat Z ((s.heap.objs.size, .dictI [] 0) :: l) { s with heap := s.heap.push { cls := .type "dict", data := .dict #[] } } :=
    hs.new (tk := s.toks) (fun b o e => Heap.get?_push_of_some _ e) (Nat.le_refl _) (Heap.get?_push_size _ rfl) ⟨[], #[], ⟨rfl, rfl, rfl⟩, rfl, by intro i h; simp at h, by first | exact .nil | simp [Pairs], List.nodup_nil, rfl⟩
  refine wpAny_Dict_pairs (knd := PySem.intKind Z.prog Z.w) (pairs := [(eval k1 env, (do let x ← eval v1 env; standAt pos; pure x)), (eval k2 env, (do let x ← eval v2 env; standAt pos; pure x))]) rfl (by simp) (by simp) ?_
  show wpAny Z.M A (evalPairs _) _ X _
  unfold evalPairs
  refine wpAny_bind (h _ _ _ hD fun ka s1 l1 h1 g1 => wpAny_bind (wpAny_holding (wpAny_bind (g1 s1 _ h1 fun va s2 l2 h2 g2 => wpAny_bind (wpAny_standAt (wpAny_pure (wpAny_bind (wpAny_holding ?_))))))))
  unfold evalPairs
  refine wpAny_bind (g2 s2 _ h2 fun kb s3 l3 h3 g3 => wpAny_bind (wpAny_holding (wpAny_bind (g3 s3 _ h3 fun vb s4 l4 h4 g4 => wpAny_bind (wpAny_standAt (wpAny_pure (wpAny_bind (wpAny_holding ?_))))))))
  unfold evalPairs
  refine wpAny_pure (wpAny_pure (wpAny_pure ?_))
  obtain ⟨i, j, e1, e2, hij, g5⟩ := g4
  obtain ⟨t, rfl⟩ := er_int e1
  obtain ⟨u, rfl⟩ := er_int e2
  have hij' : ¬ i = j := hij
  have hD4 := (g5 0).choose_spec.1.mem
  obtain ⟨kvs', hA, hk⟩ := h4.dictAt hD4
  have : kvs' = [] := by simpa using hk
  subst this
  refine ⟨[(i, va), (j, vb)], ⟨intKind_is _ _ _ _, rfl, intKind_is _ _ _ _, rfl, trivial⟩, hA.dictOf, fun h' hD' hB => ?_⟩
  obtain ⟨ob, es, ep', ho, h5, h6, h7, h8, h9⟩ := hD'
  have e3 : merged [] [(i, va), (j, vb)] = [(i, va), (j, vb)] := by simp [merged, stored, hij']
  rw [e3] at h8 h9
  obtain ⟨l5, U, hq⟩ := g5 ep'
  exact hQ (.ref _) _ _ (h4.up U (fun b hb o e => (hB.2 b hb).trans e) ho ⟨_, es, h5, h6, h7, h8, h9, rfl⟩) hq
end
section
variable {Z : Amb} {A : Around} {env : Env} {l l' : Led} {X : Value → Shared → Prop} {L : Addr} {names : List (Str × NameKind)} {cells : List (Str × Addr)}
theorem Sat.dictSAt {s : Shared} {d : Addr} {kvs : List (Str × AV)} (hs : Sat Z l s) (h : (d, .dictS kvs) ∈ l) : ∃ kvs', s.heap.DictOf (PySem.strKind Z.prog Z.w) d kvs' ∧ kvs'.map (fun p => (p.1, er p.2)) = kvs := by
  obtain ⟨_, ob, ho, kvs', ⟨es, ep, h1⟩, h6⟩ := hs.obj h
  exact ⟨kvs', ⟨ob, es, ep, ho, h1⟩, h6⟩
theorem r_dict0 {pos : Pos} {Q : AV → Led → Prop} (h : ∀ d, Q (.ref d) ((d, .dictS []) :: l)) : EV Z A env (.Dict [] [] pos) l Q X := by
  intro s Q' hs hQ
  exact wpAny_Dict_empty (hQ (.ref _) _ _ (hs.new (tk := s.toks) (o := .dictS []) (fun b o e => Heap.get?_push_of_some _ e) (Nat.le_refl _) (Heap.get?_push_size _ rfl) ⟨[], ⟨#[], 0, ⟨rfl, rfl, rfl⟩, rfl, by intro i h; simp at h, .nil, List.nodup_nil⟩, rfl⟩) (h _))
theorem c_notinD {d : Addr} {kvs : List (Str × AV)} {x : Str} {Q : Bool → Led → Prop} (hd : (d, .dictS kvs) ∈ l) (h : Q (!decide (x ∈ kvs.map (·.1))) l) : CP Z A .NotIn (.str x) (.ref d) l Q X := by
  rintro va vb e1 e2 s Q' hs hQ
  obtain ⟨t, rfl⟩ := er_str e1; obtain rfl := er_ref e2
  obtain ⟨kvs', hD, rfl⟩ := hs.dictSAt hd
  refine wpAny_notIn_of (strKind_is _ _ _ _) (not_sys hs hd) hD.mapOf (hQ _ _ _ (hs.tok _) ⟨_, rfl, ?_⟩)
  have : (valueAt kvs' x).isSome = decide (x ∈ (kvs'.map fun p => (p.1, er p.2)).map (·.1)) := by
    unfold valueAt
    rw [Option.isSome_map, Bool.eq_iff_iff, List.find?_isSome]
    simp
  rw [this]
  exact h
theorem islist_keep {s : Shared} {a : Addr} {its : Array Value} (hs : Sat Z l s) (h : Z.h₀.IsList a its) : s.heap.IsList a its := by
  obtain ⟨o, ho, r⟩ := h
  exact ⟨o, hs.keep _ _ ho, r⟩
theorem b_lenH {a : Addr} {its : Array Value} {Q : AV → Led → Prop} (ha : Z.h₀.IsList a its) (hz : its.size ≤ 1000) (h : Q (.int its.size) l) : CL Z A (.builtin "len") [.ref a] l Q X := by
  rintro vs e s Q' hs hQ
  obtain ⟨v, rfl, e2⟩ := one_arg e
  obtain rfl := er_ref e2
  exact call_len_list (islist_keep hs ha) (by omega) (hQ (.int _ _) _ _ (hs.tok _) h)
theorem i_listH {a : Addr} {its : Array Value} {k : Int} {v : Value} {Q : AV → Led → Prop} (ha : Z.h₀.IsList a its) (h0 : 0 ≤ k) (hf : k < 2 ^ 63) (hx : its[k.toNat]? = some v) (h : Q (er v) l) : IT Z A (.ref a) (.int k) l Q X := by
  rintro vo vi e1 e2
  obtain rfl := er_ref e1; obtain ⟨t, rfl⟩ := er_int e2
  refine ⟨fun s Q' hs hQ => wpAny_getItem_list (islist_keep hs ha) h0 hf hx (hQ _ _ _ hs h), fun s hs => ?_⟩
  obtain ⟨o, ho, hc, _⟩ := islist_keep hs ha
  exact ⟨"list", _, ⟨_, ho, hc⟩, slot_list_getitem.lookup⟩
theorem r_neg {e : Expr} {pos : Pos} {Q : AV → Led → Prop} (h : EV Z A env e l (IsI fun i => Q (.int (-i))) X) : EV Z A env (.UnaryOp .USub e pos) l Q X := by
  intro s Q' hs hQ
  refine UnaryOp_ (h s _ hs fun v s1 l1 h1 g1 => ?_)
  obtain ⟨i, e, g⟩ := g1
  obtain ⟨t, rfl⟩ := er_int e
  exact PyProof.Rows.neg_int (hQ (.int _ _) _ _ (h1.tok _) g)
theorem si_dictSNew {d : Addr} {kvs : List (Str × AV)} {k : Str} {v : AV} {Q : Led → Prop} (U : Up1 d (.dictS kvs) (.dictS (kvs ++ [(k, v)])) l l') (hk : k ∉ kvs.map (·.1)) (hz : kvs.length ≤ 1000) (h : Q l') :
    ∀ vo vi, er vo = .ref d → er vi = .str k → ST Z A (setItem vo vi) v l Q X := by
  rintro vo vi e1 e2 u rfl s Q' hs hQ
  obtain rfl := er_ref e1; obtain ⟨t, rfl⟩ := er_str e2
  obtain ⟨kvs', hD, rfl⟩ := hs.dictSAt U.mem
  rw [List.length_map] at hz
  refine wpAny_setItem_pairs (strKind_is _ _ _ _) hD (fun h' hD' hB => ?_) (Nat.le_trans hz (by decide))
  obtain ⟨ob, es, ep', ho, h1⟩ := hD'
  have hst : stored kvs' k u = kvs' ++ [(k, u)] := by
    unfold stored
    rw [if_neg]
    intro ha
    obtain ⟨p, hp, e⟩ := List.any_eq_true.mp ha
    exact hk (List.mem_map.mpr ⟨(p.1, er p.2), List.mem_map.mpr ⟨p, hp, rfl⟩, of_decide_eq_true e⟩)
  rw [hst] at h1
  exact hQ () _ _ (hs.up (tk := s.toks + 1) U (fun b hb o e => (hB.2 b hb).trans e) ho ⟨kvs' ++ [(k, u)], ⟨es, ep', h1⟩, by simp⟩) h
end
noncomputable def nm : Stmt → Str
  | .FunctionDef n .. => n
  | .ClassDef n .. => n
  | _ => ""
noncomputable def stAt (i : Nat) : Stmt := PySem.Challenge.pw_xm0670_01.main.body.getD i (.Pass default)
noncomputable def inCls : Stmt → Nat → Stmt
  | .ClassDef _ _ _ b _ _ _ _ _ _ _, i => b.getD i (.Pass default)
  | s, _ => s
noncomputable def fdP : Stmt → Arguments
  | .FunctionDef _ a _ _ _ _ _ _ _ _ => a
  | _ => { posonlyargs := [], args := [], vararg := none, kwonlyargs := [], kw_defaults := [], kwarg := none, defaults := [] }
noncomputable def fdB : Stmt → List Stmt
  | .FunctionDef _ _ b _ _ _ _ _ _ _ => b
  | _ => []
noncomputable def fdS : Stmt → Scope
  | .FunctionDef _ _ _ _ _ _ s _ _ _ => s
  | _ => { kind := .module, names := [], isGenerator := false, isCoroutine := false, more := [] }
noncomputable def DefAt (Z : Amb) (a : Addr) (name qual : Str) (st : Stmt) : Prop :=
  ∃ (oc : Value) (od : Option Addr) (osl : Array (Option Value)) (doc pm cdv ct : Value),
    Z.K.lookup a = some ⟨oc, od, .func (fnOf name qual (fdP st) (fdB st) (fdS st) .none .none doc pm none cdv ct), osl⟩ ∧ codeIn Z.K cdv qual = true ∧ keepIn Z.K (.ref a) = true
theorem DefAt.keep {Z : Amb} {a : Addr} {name qual : Str} {st : Stmt} (h : DefAt Z a name qual st) : keepIn Z.K (.ref a) = true := by
  obtain ⟨_, _, _, _, _, _, _, _, _, h⟩ := h; exact h
section
variable {Z : Amb} {A : Around} {l : Led} {X : Value → Shared → Prop}
theorem cd_fn {a : Addr} {name qual : Str} {st : Stmt} {ps others : List Str} {args : List AV} {m : List (Str × Option AV)} {names : List (Str × NameKind)} {k : Nat} {Q : AV → Led → Prop}
    (hf : DefAt Z a name qual st) (hN : (fdS st).names = names) (hm : frame0 ps args others = m)
    (hbind : ∀ doc pm cdv ct (vs : List Value), vs.map er = args → bindArgs (fnOf name qual (fdP st) (fdB st) (fdS st) .none .none doc pm none cdv ct) ⟨vs, []⟩ = pure (ps.zip vs))
    (hck : ((ps.all fun x => decide (names.lookup x = some .local)) && (names.all fun x => decide (x.2 ≠ .cell)) && decide (names.map (·.1)).Nodup && decide (ps ++ others).Nodup && decide ((fdS st).kind = .function) && !(fdS st).isCoroutine && !(fdS st).isGenerator) = true)
    (hlen : args.length = ps.length) (hr : Room A (k + 1))
    (h : ∀ env L A', EnvIs env L names [] → Room A' k → SV Z A' env (fdB st) ((L, .frame m) :: l) (fun fl => Up (Q (retOf fl))) noX) : CD Z A (.ref a) args l Q X := by
  obtain ⟨oc, od, osl, doc, pm, cdv, ct, h1, h2, h3⟩ := hf
  subst hN
  simp only [Bool.and_eq_true, Bool.not_eq_true', decide_eq_true_eq] at hck
  obtain ⟨⟨⟨⟨⟨⟨c1, c2⟩, c3⟩, c4⟩, c5⟩, c6⟩, c7⟩ := hck
  refine cd_def h1 h2 (hbind doc pm cdv ct) c1 c2 c3 hm ?_ c5 c6 c7 hr h
  subst hm
  have : (frame0 ps args others).map (·.1) = ps ++ others := by
    unfold frame0
    rw [List.map_append, List.map_map, List.map_map]
    congr 1
    · have : ((fun x : Str × Option AV => x.1) ∘ fun p : Str × AV => (p.1, some p.2)) = Prod.fst := rfl
      rw [this, List.map_fst_zip (by omega)]
    · have : ((fun x : Str × Option AV => x.1) ∘ fun y : Str => (y, (none : Option AV))) = id := rfl
      rw [this, List.map_id]
  rw [this]; exact c4
theorem bind1 {fd : FuncData} {p : Str} {a : AV} (h : ∀ v, bindArgs fd ⟨[v], []⟩ = pure [(p, v)]) : ∀ vs : List Value, vs.map er = [a] → bindArgs fd ⟨vs, []⟩ = pure ([p].zip vs) := by
  intro vs e
  obtain ⟨v, rfl, _⟩ := one_arg e
  exact h v
theorem bind2 {fd : FuncData} {p q : Str} {a b : AV} (h : ∀ u v, bindArgs fd ⟨[u, v], []⟩ = pure [(p, u), (q, v)]) : ∀ vs : List Value, vs.map er = [a, b] → bindArgs fd ⟨vs, []⟩ = pure ([p, q].zip vs) := by
  intro vs e
  obtain ⟨u, v, rfl, _, _⟩ := two_of e
  exact h u v
end
noncomputable abbrev pw : Program := PySem.Challenge.pw_xm0670_01
theorem boot_facts (w : World) : ((boot_heap w.params).isNs mainGlobals && (#[] : Array GenState).size == 0, (boot_heap w.params).objs.size, (boot_heap w.params).nsMap mainGlobals "__annotations__") = (true, 11, some (.ref 6)) := by kernel_rfl
noncomputable def fIdx : List Nat := [2,3,4,5,6,7,8,9,10,11,16,17,23,24,25,26,27,28,29,30,31,32,33,34,35]
noncomputable def mIdx : List Nat := [1,2,3,4,5,6,7,8,9,10,11,13,14,17,18,19,20,21]
noncomputable def faN (i : Nat) : Addr := ([0, 21, 28, 35, 42, 49, 56, 63, 70, 77, 82, 89, 0, 0, 0, 0, 128, 135, 0, 0, 0, 0, 0, 353, 360, 367, 374, 379, 386, 393, 398, 403, 408, 413, 420, 427] : List Nat).getD i 0
noncomputable def maN (j : Nat) : Addr := 171 + 7 * j
noncomputable def needA : List Addr := mainGlobals :: 119 :: 118 :: 106 :: 105 :: 342 :: 341 :: 153 :: 152 :: 136 :: 171 :: 170 :: 150 :: 149 :: 103 :: 102 :: (fIdx.map faN ++ (fIdx.map fun i => faN i - 1) ++ mIdx.map maN ++ (mIdx.map fun j => maN j - 1))
noncomputable def Kof (h : Heap) : Frag := needA.filterMap fun a => (h.get? a).map fun o => (a, o)
theorem mem_of_lookN {K : Frag} {a : Addr} {o : Obj} (h : K.lookup a = some o) : (a, o) ∈ K := by
  induction K with
  | nil => simp at h
  | cons p r ih =>
    obtain ⟨y, u⟩ := p
    rw [List.lookup_cons] at h
    cases e : a == y with
    | true => rw [e] at h; cases h; rw [eq_of_beq e]; exact .head _
    | false => rw [e] at h; exact .tail _ (ih h)
theorem Kof_in (h : Heap) : (Kof h).In h := by
  intro a o e
  have hm := mem_of_lookN e
  unfold Kof at hm
  obtain ⟨b, _, hb⟩ := List.mem_filterMap.mp hm
  obtain ⟨o', h1, h2⟩ := Option.map_eq_some_iff.mp hb
  cases h2
  exact h1
noncomputable def nsK (K : Frag) (a : Addr) (x : Str) : Option (Option Value) := match K.lookup a with
  | some ⟨_, _, .dict es _, _⟩ => some (nsFind es x)
  | _ => none
theorem nsK_of {K : Frag} {h : Heap} {a : Addr} {x : Str} {v : Option Value} {m : Str → Option Value} (X : K.In h) (hn : h.Ns a m) (e : nsK K a x = some v) : m x = v := by
  obtain ⟨o, es, ep, ho, hd, _, hm⟩ := hn
  unfold nsK at e
  split at e
  · rename_i c dd es' n sl hk
    have := X _ _ hk
    rw [ho] at this
    cases this
    cases hd
    cases e
    exact (hm x).symm
  · cases e
noncomputable def pmT : Value := .str "markupmill.tree" 359
noncomputable def pmN (i : Nat) : Value := if i < 12 then .str "markupmill.axes" 194 else if i < 18 then .str "markupmill.edits" 339 else .str "law_xm0670_01" 659
noncomputable def fnE (a : Addr) (st : Stmt) (qual : Str) (pm : Value) : Obj := ⟨.type "function", none, .func (fnOf (nm st) qual (fdP st) (fdB st) (fdS st) .none .none .none pm none (.ref (a - 1)) .none), #[]⟩
noncomputable def mSt (j : Nat) : Stmt := inCls (stAt 21) j
noncomputable def mQual (j : Nat) : Str := "Tree." ++ nm (mSt j)
noncomputable def bltN : List Str := ["list", "len", "str", "range", "sorted", "Exception"]
noncomputable def rowN : List Str := ["kind", "name", "uri", "local", "value", "parent", "children", "attributes", "namespaces"]
noncomputable def obs (K : Frag) :=
  ((fIdx.map fun i => (K.lookup (faN i), codeIn K (.ref (faN i - 1)) (nm (stAt i)) && keepIn K (.ref (faN i)), nsK K mainGlobals (nm (stAt i)))),
   (mIdx.map fun j => (K.lookup (maN j), codeIn K (.ref (maN j - 1)) (mQual j) && keepIn K (.ref (maN j)) && methOk K 342 (nm (mSt j)) (maN j))),
   (K.lookup 171, K.lookup 150, K.lookup 103),
   (codeIn K (.ref 170) "Tree.__init__" && keepIn K (.ref 171) && codeIn K (.ref 149) "NodeRow.__init__" && keepIn K (.ref 150) && codeIn K (.ref 102) "MarkupError.__init__" && keepIn K (.ref 103) &&
     makesIn K 342 && makesIn K 153 && isFn K (.ref 171) && isFn K (.ref 150) && isFn K (.ref 103) && keepIn K (.ref 342) && keepIn K (.ref 153) && keepIn K (.ref 119) && attrOk K 342 "rows" && storeOk' K 342 "rows" && (rowN.all fun x => attrOk K 153 x && storeOk' K 153 x)),
   (findIn K (.ref 342) "__init__", findIn K (.ref 153) "__init__", findIn K (.ref 119) "__init__", findIn K (.ref 119) "__setattr__", findIn K (.ref 119) "message"),
   (nsK K mainGlobals "Tree", nsK K mainGlobals "NodeRow", nsK K mainGlobals "PARENTS", nsK K mainGlobals "TreeFault", bltN.map fun x => nsK K mainGlobals x),
   (K.lookup 119, K.lookup 136))
noncomputable def seenAs :=
  ((fIdx.map fun i => (some (fnE (faN i) (stAt i) (nm (stAt i)) (pmN i)), true, some (some (Value.ref (faN i))))),
   (mIdx.map fun j => (some (fnE (maN j) (mSt j) (mQual j) pmT), true)),
   (some (fnE 171 (mSt 0) "Tree.__init__" pmT), some (fnE 150 (inCls (stAt 20) 0) "NodeRow.__init__" pmT), some (fnE 103 (inCls (stAt 13) 0) "MarkupError.__init__" (.str "markupmill.errors" 292))),
   true,
   (some (some (Value.ref 171)), some (some (Value.ref 150)), some (some (Value.ref 103)), some (some (Value.builtin "object.__setattr__")), some (none : Option Value)),
   (some (some (Value.ref 342)), some (some (Value.ref 153)), some (some (Value.ref 136)), some (some (Value.ref 119)), bltN.map fun _ => some (none : Option Value)),
   (some (faultObj "TreeFault" "TreeFault" 119 118 106 [.ref 106] true [] [] false none none (some (.ref 110)) none (some (.str "TreeFault" 323)) (some (.str "TreeFault" 331)) (some (.bool true))),
    some (⟨.type "tuple", none, .seq #[.str "root" 361, .str "element" 362] 0, #[]⟩ : Obj)))
noncomputable def viewQ : Program := { pw with main := { pw.main with body := [stAt 35] } }
noncomputable def looseN : List Str := ["_wall", "is_beside", "descendants", "ancestors", "siblings_ahead", "siblings_behind", "with_descendants", "following", "preceding", "namespaces_in_scope", "short_axis", "MarkupError", "TreeFault", "list_above", "remove", "PARENTS", "NodeRow", "Tree", "_law_pool", "_law_take", "_law_one", "_law_grown", "_law_loosened", "_law_is_child", "_law_place", "_law_behind", "_law_ahead", "_law_near", "_law_short_right", "_law_is_refused"]
noncomputable def pmM : Value := .str "__main__" 164
noncomputable def pmE : Value := .str "markupmill.errors" 292
noncomputable def en (P : Params) (k : Str) (t : Nat) (v : Value) : DictEntry := ⟨PySem.PyData.keyHash P k, .str k t, v⟩
noncomputable def tu (l : List Value) : Obj := ⟨.type "tuple", none, .seq l.toArray, #[]⟩
noncomputable def fi (c : String) (l : List Value) : Obj := ⟨.type c, none, .fields l.toArray, #[]⟩
noncomputable def T0 : Obj := tu []
noncomputable def co (l : List (Nat × Nat × Nat)) : Obj := ⟨.none, none, .fields (l.flatMap fun x => [.int (Int.ofNat x.1) 0, .int (Int.ofNat x.2.1) 0, .ref x.2.2]).toArray, #[]⟩
noncomputable def F0 : Obj := co []
noncomputable def di (l : List DictEntry) (e : Nat) : Obj := ⟨.type "dict", none, .dict l.toArray e, #[]⟩
noncomputable def fm (a b : Addr) (m : Value) : Obj := ⟨.type "frame", none, .plain, #[some (.ref a), some (.ref 3), some (.ref b), none, some m, none, some (.ref 0)]⟩
noncomputable def cd (n q : Str) (t line a argc fl : Nat) (b : Bool) (v w x : Value) (u : Nat) : Obj :=
  fi "code" [.str n t, .str q (t + 1), .str "/claim/cut.py" (t + 2), .int (Int.ofNat line) 0, .int (Int.ofNat argc) 0, .int 0 0, .int 0 0, .int (Int.ofNat fl) 0, .ref a, .bool b, .int 181 0, .ref (a + 1), .none, v, w, x, .int (Int.ofNat u) 0, .int (Int.ofNat line) 0, .str "/claim/cut.py" (u + 1)]
noncomputable def fn0 (st : Stmt) (qual : Str) : Obj := ⟨.none, none, .func { name := nm st, qualname := qual, params := fdP st, body := .stmts (fdB st), scope := fdS st, globals := 0, closure := [], defaults := .none, kwdefaults := .none }, #[]⟩
noncomputable def locs : List (Str × NameKind) → List Str
  | [] => []
  | (x, .local) :: r => x :: locs r
  | _ :: r => locs r
noncomputable def numd : Nat → List Str → List Value
  | _, [] => []
  | t, x :: r => .str x t :: numd (t + 1) r
noncomputable def fnB (a t line : Nat) (st : Stmt) (qual : Str) (pm : Value) : Bool → List Obj
  | true => [T0, F0, tu (numd (t + 3) (locs (fdS st).names)), T0, fn0 st qual, cd (nm st) qual t line a (fdP st).args.length 3 true (.ref (a + 2)) (.ref (a + 3)) (.ref (a + 4)) (t + 3 + (locs (fdS st).names).length), fnE (a + 6) st qual pm]
  | false => [T0, F0, fn0 st qual, cd (nm st) qual t line a (fdP st).args.length 3 true .none .none (.ref (a + 2)) (t + 3), fnE (a + 4) st qual pm]
noncomputable def mainL (P : Params) : List DictEntry := [en P "__doc__" 166 .none, en P "__package__" 167 .none, en P "__loader__" 168 (.builtin "__main__.__loader__#opaque"), en P "__spec__" 169 .none, en P "__annotations__" 170 (.ref 6), en P "__builtins__" 171 (.ref 4), en P "__file__" 173 (.str "/claim/cut.py" 172), en P "__cached__" 174 .none, en P "_wall" 193 (.ref 21), en P "is_beside" 203 (.ref 28), en P "descendants" 214 (.ref 35), en P "ancestors" 224 (.ref 42), en P "siblings_ahead" 234 (.ref 49), en P "siblings_behind" 244 (.ref 56), en P "with_descendants" 254 (.ref 63), en P "following" 264 (.ref 70), en P "preceding" 275 (.ref 77), en P "namespaces_in_scope" 281 (.ref 82), en P "short_axis" 291 (.ref 89), en P "MarkupError" 322 (.ref 106), en P "TreeFault" 338 (.ref 119), en P "list_above" 350 (.ref 128), en P "remove" 358 (.ref 135), en P "PARENTS" 363 (.ref 136), en P "NodeRow" 405 (.ref 153), en P "Tree" 658 (.ref 342), en P "_law_pool" 669 (.ref 353), en P "_law_take" 678 (.ref 360), en P "_law_one" 686 (.ref 367), en P "_law_grown" 706 (.ref 374), en P "_law_loosened" 712 (.ref 379), en P "_law_is_child" 720 (.ref 386), en P "_law_place" 731 (.ref 393), en P "_law_behind" 737 (.ref 398), en P "_law_ahead" 743 (.ref 403), en P "_law_near" 749 (.ref 408), en P "_law_short_right" 755 (.ref 413), en P "_law_is_refused" 764 (.ref 420), en P "law" 781 (.ref 427)]
noncomputable def consL : List (Nat × Nat × Nat) := [(1, 0, 20), (5, 0, 27), (7, 0, 34), (14, 0, 41), (20, 0, 48), (26, 0, 55), (32, 0, 62), (38, 0, 69), (48, 0, 76), (58, 0, 81), (71, 0, 88), (90, 0, 95), (95, 0, 115), (98, 0, 127), (104, 0, 134), (111, 0, 142), (123, 0, 163), (227, 0, 352), (231, 0, 359), (238, 0, 366), (240, 0, 373), (265, 0, 378), (274, 0, 385), (276, 0, 392), (280, 0, 397), (285, 0, 402), (290, 0, 407), (292, 0, 412), (310, 0, 419), (321, 0, 426)]
noncomputable def objR (P : Params) : List Obj := List.flatten [
  fnB 15 187 1 (stAt 0) (nm (stAt 0)) pmM true,
  fnB 22 196 5 (stAt 2) (nm (stAt 2)) (pmN 2) true,
  fnB 29 204 7 (stAt 3) (nm (stAt 3)) (pmN 2) true,
  fnB 36 215 14 (stAt 4) (nm (stAt 4)) (pmN 2) true,
  fnB 43 225 20 (stAt 5) (nm (stAt 5)) (pmN 2) true,
  fnB 50 235 26 (stAt 6) (nm (stAt 6)) (pmN 2) true,
  fnB 57 245 32 (stAt 7) (nm (stAt 7)) (pmN 2) true,
  fnB 64 255 38 (stAt 8) (nm (stAt 8)) (pmN 2) true,
  fnB 71 265 48 (stAt 9) (nm (stAt 9)) (pmN 2) true,
  fnB 78 276 58 (stAt 10) (nm (stAt 10)) (pmN 2) false,
  fnB 83 282 71 (stAt 11) (nm (stAt 11)) (pmN 2) true,
  [tu [.type "Exception"], fi "builtin_function_or_method" [.builtin "type.__prepare__", .type "type"], di [en P "__module__" 301 (.str "markupmill.errors" 292), en P "__qualname__" 303 (.str "MarkupError" 302), en P "__firstlineno__" 305 (.int 90 304), en P "__init__" 313 (.ref 103), en P "__static_attributes__" 315 (.ref 104)] 5, T0, co [(92, 4, 102)], cd "MarkupError" "MarkupError" 296 90 93 0 0 false .none .none .none 299, fm 95 92 (.str "markupmill.errors" 292)],
  fnB 97 306 92 (inCls (stAt 13) 0) "MarkupError.__init__" pmE true,
  [tu [.str "message" 314], di [en P "__module__" 301 (.str "markupmill.errors" 292), en P "__firstlineno__" 305 (.int 90 304), en P "__init__" 313 (.ref 103), en P "__static_attributes__" 315 (.ref 104), en P "__weakref__" 317 (.ref 107), en P "__doc__" 318 .none] 3, ⟨.type "type", none, .cls { name := "MarkupError", bases := [.type "Exception"], mro := [.ref 106, .type "Exception", .type "BaseException", .type "object"], ns := 105, qualname := "MarkupError", subclasses := [.ref 119] }, #[some (.ref 90), none, some (.str "MarkupError" 294), some (.str "MarkupError" 302), some (.builtin "Exception.__new__"), some (.bool true)]⟩, fi "getset_descriptor" [.str "__weakref__" 316, .ref 106, .builtin "ExceptionGroup.__weakref__", .none], fi "super" [.ref 106, .ref 106, .ref 106], fi "builtin_function_or_method" [.builtin "object.__init_subclass__", .ref 106], tu [.ref 106], fi "builtin_function_or_method" [.builtin "type.__prepare__", .type "type"], di [en P "__module__" 330 (.str "markupmill.errors" 292), en P "__qualname__" 332 (.str "TreeFault" 331), en P "__firstlineno__" 334 (.int 95 333), en P "__static_attributes__" 335 (.ref 117)] 4, T0, F0, cd "TreeFault" "TreeFault" 325 95 113 0 0 false .none .none .none 328, fm 115 112 (.str "markupmill.errors" 292), T0, di [en P "__module__" 330 (.str "markupmill.errors" 292), en P "__firstlineno__" 334 (.int 95 333), en P "__static_attributes__" 335 (.ref 117), en P "__doc__" 336 .none] 2, ⟨.type "type", none, .cls { name := "TreeFault", bases := [.ref 106], mro := [.ref 119, .ref 106, .type "Exception", .type "BaseException", .type "object"], ns := 118, qualname := "TreeFault" }, #[some (.ref 110), none, some (.str "TreeFault" 323), some (.str "TreeFault" 331), some (.builtin "Exception.__new__"), some (.bool true)]⟩, fi "super" [.ref 119, .ref 119, .ref 119], fi "builtin_function_or_method" [.builtin "object.__init_subclass__", .ref 119]],
  fnB 122 341 98 (stAt 16) (nm (stAt 16)) (pmN 16) true,
  fnB 129 351 104 (stAt 17) (nm (stAt 17)) (pmN 16) true,
  [tu [.str "root" 361, .str "element" 362], T0, fi "builtin_function_or_method" [.builtin "type.__prepare__", .type "type"], di [en P "__module__" 371 (.str "markupmill.tree" 359), en P "__qualname__" 373 (.str "NodeRow" 372), en P "__firstlineno__" 375 (.int 111 374), en P "__init__" 388 (.ref 150), en P "__static_attributes__" 398 (.ref 151)] 5, T0, co [(113, 4, 149)], cd "NodeRow" "NodeRow" 366 111 140 0 0 false .none .none .none 369, fm 142 139 (.str "markupmill.tree" 359)],
  fnB 144 376 113 (inCls (stAt 20) 0) "NodeRow.__init__" pmT true,
  [tu [.str "attributes" 389, .str "children" 390, .str "kind" 391, .str "local" 392, .str "name" 393, .str "namespaces" 394, .str "parent" 395, .str "uri" 396, .str "value" 397], di [en P "__module__" 371 (.str "markupmill.tree" 359), en P "__firstlineno__" 375 (.int 111 374), en P "__init__" 388 (.ref 150), en P "__static_attributes__" 398 (.ref 151), en P "__dict__" 400 (.ref 154), en P "__weakref__" 402 (.ref 155), en P "__doc__" 403 .none] 4, ⟨.type "type", none, .cls { name := "NodeRow", bases := [.type "object"], mro := [.ref 153, .type "object"], ns := 152, qualname := "NodeRow" }, #[none, none, some (.str "NodeRow" 364), some (.str "NodeRow" 372), some (.builtin "object.__new__"), some (.bool true)]⟩, fi "getset_descriptor" [.str "__dict__" 399, .ref 153, .builtin "function.__dict__", .builtin "function.__dict__#set"], fi "getset_descriptor" [.str "__weakref__" 401, .ref 153, .builtin "ExceptionGroup.__weakref__", .none], fi "super" [.ref 153, .ref 153, .ref 153], fi "builtin_function_or_method" [.builtin "object.__init_subclass__", .ref 153], T0, fi "builtin_function_or_method" [.builtin "type.__prepare__", .type "type"], di [en P "__module__" 413 (.str "markupmill.tree" 359), en P "__qualname__" 415 (.str "Tree" 414), en P "__firstlineno__" 417 (.int 123 416), en P "__init__" 424 (.ref 171), en P "new_row" 437 (.ref 178), en P "row" 445 (.ref 185), en P "new_root" 452 (.ref 192), en P "add_child" 466 (.ref 199), en P "add_element" 477 (.ref 206), en P "add_text" 486 (.ref 213), en P "add_comment" 495 (.ref 220), en P "add_instruction" 505 (.ref 227), en P "element_row" 514 (.ref 234), en P "set_attribute" 529 (.ref 241), en P "add_namespace" 541 (.ref 248), en P "set_value" 550 (.ref 255), en P "kind" 558 (.ref 262), en P "name" 566 (.ref 269), en P "uri" 574 (.ref 276), en P "local" 582 (.ref 283), en P "value" 590 (.ref 290), en P "parent" 598 (.ref 297), en P "children" 606 (.ref 304), en P "attributes" 614 (.ref 311), en P "namespaces" 622 (.ref 318), en P "root_of" 630 (.ref 325), en P "is_above" 639 (.ref 332), en P "attribute_value" 649 (.ref 339), en P "__static_attributes__" 651 (.ref 340)] 29, T0, co [(125, 4, 170), (128, 4, 177), (132, 4, 184), (137, 4, 191), (140, 4, 198), (148, 4, 205), (151, 4, 212), (154, 4, 219), (157, 4, 226), (160, 4, 233), (166, 4, 240), (178, 4, 247), (188, 4, 254), (191, 4, 261), (194, 4, 268), (197, 4, 275), (200, 4, 282), (203, 4, 289), (206, 4, 296), (209, 4, 303), (212, 4, 310), (215, 4, 317), (218, 4, 324), (221, 4, 331), (224, 4, 338)], cd "Tree" "Tree" 408 123 161 0 0 false .none .none .none 411, fm 163 160 (.str "markupmill.tree" 359)],
  fnB 165 418 125 (mSt 0) (mQual 0) pmT true,
  fnB 172 425 128 (mSt 1) (mQual 1) pmT true,
  fnB 179 438 132 (mSt 2) (mQual 2) pmT true,
  fnB 186 446 137 (mSt 3) (mQual 3) pmT true,
  fnB 193 453 140 (mSt 4) (mQual 4) pmT true,
  fnB 200 467 148 (mSt 5) (mQual 5) pmT true,
  fnB 207 478 151 (mSt 6) (mQual 6) pmT true,
  fnB 214 487 154 (mSt 7) (mQual 7) pmT true,
  fnB 221 496 157 (mSt 8) (mQual 8) pmT true,
  fnB 228 506 160 (mSt 9) (mQual 9) pmT true,
  fnB 235 515 166 (mSt 10) (mQual 10) pmT true,
  fnB 242 530 178 (mSt 11) (mQual 11) pmT true,
  fnB 249 542 188 (mSt 12) (mQual 12) pmT true,
  fnB 256 551 191 (mSt 13) (mQual 13) pmT true,
  fnB 263 559 194 (mSt 14) (mQual 14) pmT true,
  fnB 270 567 197 (mSt 15) (mQual 15) pmT true,
  fnB 277 575 200 (mSt 16) (mQual 16) pmT true,
  fnB 284 583 203 (mSt 17) (mQual 17) pmT true,
  fnB 291 591 206 (mSt 18) (mQual 18) pmT true,
  fnB 298 599 209 (mSt 19) (mQual 19) pmT true,
  fnB 305 607 212 (mSt 20) (mQual 20) pmT true,
  fnB 312 615 215 (mSt 21) (mQual 21) pmT true,
  fnB 319 623 218 (mSt 22) (mQual 22) pmT true,
  fnB 326 631 221 (mSt 23) (mQual 23) pmT true,
  fnB 333 640 224 (mSt 24) (mQual 24) pmT true,
  [tu [.str "rows" 650], di [en P "__module__" 413 (.str "markupmill.tree" 359), en P "__firstlineno__" 417 (.int 123 416), en P "__init__" 424 (.ref 171), en P "new_row" 437 (.ref 178), en P "row" 445 (.ref 185), en P "new_root" 452 (.ref 192), en P "add_child" 466 (.ref 199), en P "add_element" 477 (.ref 206), en P "add_text" 486 (.ref 213), en P "add_comment" 495 (.ref 220), en P "add_instruction" 505 (.ref 227), en P "element_row" 514 (.ref 234), en P "set_attribute" 529 (.ref 241), en P "add_namespace" 541 (.ref 248), en P "set_value" 550 (.ref 255), en P "kind" 558 (.ref 262), en P "name" 566 (.ref 269), en P "uri" 574 (.ref 276), en P "local" 582 (.ref 283), en P "value" 590 (.ref 290), en P "parent" 598 (.ref 297), en P "children" 606 (.ref 304), en P "attributes" 614 (.ref 311), en P "namespaces" 622 (.ref 318), en P "root_of" 630 (.ref 325), en P "is_above" 639 (.ref 332), en P "attribute_value" 649 (.ref 339), en P "__static_attributes__" 651 (.ref 340), en P "__dict__" 653 (.ref 343), en P "__weakref__" 655 (.ref 344), en P "__doc__" 656 .none] 4, ⟨.type "type", none, .cls { name := "Tree", bases := [.type "object"], mro := [.ref 342, .type "object"], ns := 341, qualname := "Tree" }, #[none, none, some (.str "Tree" 406), some (.str "Tree" 414), some (.builtin "object.__new__"), some (.bool true)]⟩, fi "getset_descriptor" [.str "__dict__" 652, .ref 342, .builtin "function.__dict__", .builtin "function.__dict__#set"], fi "getset_descriptor" [.str "__weakref__" 654, .ref 342, .builtin "ExceptionGroup.__weakref__", .none], fi "super" [.ref 342, .ref 342, .ref 342], fi "builtin_function_or_method" [.builtin "object.__init_subclass__", .ref 342]],
  fnB 347 661 227 (stAt 23) (nm (stAt 23)) (pmN 35) true,
  fnB 354 670 231 (stAt 24) (nm (stAt 24)) (pmN 35) true,
  fnB 361 679 238 (stAt 25) (nm (stAt 25)) (pmN 35) true,
  fnB 368 687 240 (stAt 26) (nm (stAt 26)) (pmN 35) true,
  fnB 375 707 265 (stAt 27) (nm (stAt 27)) (pmN 35) false,
  fnB 380 713 274 (stAt 28) (nm (stAt 28)) (pmN 35) true,
  fnB 387 721 276 (stAt 29) (nm (stAt 29)) (pmN 35) true,
  fnB 394 732 280 (stAt 30) (nm (stAt 30)) (pmN 35) false,
  fnB 399 738 285 (stAt 31) (nm (stAt 31)) (pmN 35) false,
  fnB 404 744 290 (stAt 32) (nm (stAt 32)) (pmN 35) false,
  fnB 409 750 292 (stAt 33) (nm (stAt 33)) (pmN 35) false,
  fnB 414 756 310 (stAt 34) (nm (stAt 34)) (pmN 35) true,
  fnB 421 765 321 (stAt 35) (nm (stAt 35)) (pmN 35) true]
noncomputable def subs (P : Params) : Obj := ⟨.none, none, .dict #[en P "type.__subclasses__.Exception.0" 319 (.int 106 0), en P "type.__subclasses__.Exception.n" 320 (.int 1 0)] 2, #[]⟩
noncomputable def mainO (P : Params) (k : Nat) (v : Value) : Obj := di (en P "__name__" 165 v :: (mainL P).take k) (k + 1)
noncomputable def evens : List Obj → List Obj
  | [] => []
  | [x] => [x]
  | x :: _ :: r => x :: evens r
noncomputable def odds : List Obj → List Obj
  | [] => []
  | [_] => []
  | _ :: y :: r => y :: odds r
noncomputable def treeL : Nat → List Obj → BT
  | 0, _ => .nil
  | _ + 1, [] => .nil
  | k + 1, v :: r => .node v (treeL k (evens r)) (treeL k (odds r))
noncomputable def treeA (P : Params) (n : Nat) (o2 o3 : Obj) (c : Nat) : BT :=
  treeL 10 ((boot_o_0 P :: boot_o_1 P :: o2 :: o3 :: boot_o_4 P :: boot_o_5 P :: boot_o_6 P :: boot_o_7 P :: boot_o_8 P :: boot_o_9 P :: boot_o_10 P :: T0 :: co (consL.take c) :: cd "<module>" "<module>" 182 1 11 0 0 false .none .none .none 185 :: fm 13 3 pmM :: objR P).take n)
noncomputable def tree0 (P : Params) : BT := treeA P 15 (boot_o_2 P) (boot_o_3 P) 0
noncomputable def tree1 (P : Params) : BT := treeA P 90 (boot_o_2 P) (mainO P 19 pmE) 11
noncomputable def tree2 (P : Params) : BT := treeA P 158 (subs P) (mainO P 25 pmT) 16
noncomputable def tree3 (P : Params) : BT := treeA P 347 (subs P) (mainO P 26 pmT) 17
noncomputable def tree4 (P : Params) : BT := treeA P 428 (subs P) (mainO P 39 (pmN 35)) 30
noncomputable def SA (w : World) (os : OsState) : SharedT := ⟨tree0 w.params, 15, {}, #[], {}, 187, os⟩
noncomputable def SB (w : World) (os : OsState) : SharedT := ⟨tree1 w.params, 90, {}, #[], {}, 294, os⟩
noncomputable def SC (w : World) (os : OsState) : SharedT := ⟨tree2 w.params, 158, {}, #[], {}, 406, os⟩
noncomputable def SD (w : World) (os : OsState) : SharedT := ⟨tree3 w.params, 347, {}, #[], {}, 659, os⟩
noncomputable def SE (w : World) (os : OsState) : SharedT := ⟨tree4 w.params, 428, {}, #[], {}, 782, os⟩
noncomputable def envM : Env := { scope := pw.main.scope, locals := mainNs, globals := mainNs, cells := [], code := .ref 13, frame := some 14 }
noncomputable def cM : Code := .body (behindTheImports pw) envM
noncomputable def p0 : Pos := ⟨0, 0, 0, 0⟩
noncomputable def pcs (i j : Nat) : List Stmt := (pw.main.body.drop i).take j
theorem top_pre (w : World) (os : OsState) : topGo treeTable pw w 11 (some (.ref 6)) 12 ⟨boot_heap w.params, #[], boot_drawn, boot_toks, os⟩ (topStub pw) = some ((SA w os).abs, ⟨denote treeTable cM, cM, p0, [topFrame p0]⟩) := by kernel_rfl
theorem top_block (w : World) (os : OsState) : segRun treeTable pw w 11 (some (.ref 6)) 1 1 (SA w os).abs (blockOf (behindTheImports pw) envM cM p0 [topFrame p0]) = some (.next, (SA w os).abs, cM, p0) := by kernel_rfl
theorem top_1 (w : World) (os : OsState) : segRunT treeTable pw w 11 (some (.ref 6)) 1 362 (SA w os) (piecesOf (pcs 0 13) envM cM p0 [topFrame p0]) = some (.next, SB w os, cM, ⟨89, 0, 89, 8⟩) := by kernel_rfl
theorem top_2 (w : World) (os : OsState) : segRunT treeTable pw w 11 (some (.ref 6)) 1 769 (SB w os) (piecesOf (pcs 13 8) envM cM ⟨89, 0, 89, 8⟩ [topFrame p0]) = some (.next, SC w os, cM, ⟨111, 0, 122, 28⟩) := by
  rw [PySem.W.Fast.te10110043849684766642, PySem.W.Fast.te14364793385576792824]
  kernel_rfl
theorem top_3 (w : World) (os : OsState) : segRunT treeTable pw w 11 (some (.ref 6)) 1 1023 (SC w os) (piecesOf (pcs 21 1) envM cM ⟨111, 0, 122, 28⟩ [topFrame p0]) = some (.next, SD w os, cM, ⟨123, 0, 225, 16⟩) := by
  rw [PySem.W.Fast.te10110043849684766642, PySem.W.Fast.te14364793385576792824]
  kernel_rfl
theorem top_4 (w : World) (os : OsState) : segRunT treeTable pw w 11 (some (.ref 6)) 1 407 (SD w os) (piecesOf (pcs 22 14) envM cM ⟨123, 0, 225, 16⟩ [topFrame p0]) = some (.next, SE w os, cM, ⟨321, 0, 345, 15⟩) := by kernel_rfl
theorem top_fin (w : World) (os : OsState) : topRun treeTable pw w 11 (some (.ref 6)) 2 (SE w os).abs ⟨doneF .next, cM, ⟨321, 0, 345, 15⟩, [topFrame p0]⟩ = some (SE w os).abs := by kernel_rfl
theorem body_cut : behindTheImports pw = pcs 0 13 ++ (pcs 13 8 ++ (pcs 21 1 ++ (pcs 22 14 ++ []))) := by kernel_rfl
theorem top_all (w : World) (os : OsState) : topRun treeTable pw w 11 (some (.ref 6)) (12 + (1 + (362 + (769 + (1023 + (407 + 2)))))) ⟨boot_heap w.params, #[], boot_drawn, boot_toks, os⟩ (topStub pw) = some (SE w os).abs := by
  refine go_top (top_pre w os) (piece_block (top_block w os) ?_)
  rw [body_cut]
  exact piece_app (segRun_of (top_1 w os)) (piece_app (segRun_of (top_2 w os)) (piece_app (segRun_of (top_3 w os)) (piece_app (segRun_of (top_4 w os)) (top_fin w os))))
noncomputable def heapE (P : Params) : Heap := absHeap (tree4 P) 428 {}
theorem see_statics (w : World) (os : OsState) : (staticsOk (importedModules pw.main.body) (boot_heap w.params) (heapE w.params) && namesBound pw (heapE w.params) && gensDone ⟨heapE w.params, #[], {}, 782, os⟩ && laidKept (boot_heap w.params) (heapE w.params)) = true := by kernel_rfl
theorem see_open (w : World) (os : OsState) : openSeen viewQ looseN (importedModules pw.main.body) (fun _ => true) true ⟨heapE w.params, #[], {}, 782, os⟩ = openGood viewQ looseN := by kernel_rfl
theorem see_obs (w : World) : obs (Kof (heapE w.params)) = seenAs := by kernel_rfl
noncomputable abbrev two (elt : Expr) (x y : Str) (px py : Pos) (i0 i1 : Expr) (scope : Scope) (pos : Pos) : Expr := .ListComp elt [⟨.Name x px, i0, [], 0⟩, ⟨.Name y py, i1, [], 0⟩] scope pos
theorem turn0 (elt : Expr) (x y : Str) (px py : Pos) (i0 i1 : Expr) (scope : Scope) (pos : Pos) (it acc : Value) (env : Env) :
    compTurn (two elt x y px py i0 i1 scope pos) 0 it acc env = (do
      standAt i0.pos
      match ← pyNext it with
      | none => pure (.done .next)
      | some v =>
        letOwnedTupleGo (.Name x px) it v
        assign (.Name x px) env v
        let mut ok := true
        for c in ([] : List Expr) do
          if ok then ok ← isTrue c env (eval c env)
        if ok then
          let u ← eval i1 env
          standAt i1.pos
          let u ← foldedSetIterable i1 env u
          let _ ← runOwn (.compStart (two elt x y px py i0 i1 scope pos) 1 (← holding [u] (pyIter u)) acc env) env
        again (.compLoop (two elt x y px py i0 i1 scope pos) 0 it acc env)) := by rfl
theorem turn1 (elt : Expr) (x y : Str) (px py : Pos) (i0 i1 : Expr) (scope : Scope) (pos : Pos) (it acc : Value) (env : Env) :
    compTurn (two elt x y px py i0 i1 scope pos) 1 it acc env = (do
      standAt i1.pos
      match ← pyNext it with
      | none => pure (.done .next)
      | some v =>
        letOwnedTupleGo (.Name y py) it v
        assign (.Name y py) env v
        let mut ok := true
        for c in ([] : List Expr) do
          if ok then ok ← isTrue c env (eval c env)
        if ok then
          (do let _ ← call (.builtin "list.append") [acc, ← eval elt env])
        again (.compLoop (two elt x y px py i0 i1 scope pos) 1 it acc env)) := by rfl
section
variable {Z : Amb} {A : Around} {env : Env} {l l' : Led} {X : Value → Shared → Prop} {L : Addr} {names : List (Str × NameKind)} {cells : List (Str × Addr)}
theorem loop_in {elt i0 i1 : Expr} {x y : Str} {px py : Pos} {scope : Scope} {pos : Pos} {it D : Addr} {cenv : Env} {Inv : Nat → Led → Prop} {Fin : Led → Prop} {R : Result → Shared → Prop} {n : Nat} {s : Shared}
    (hs : Sat Z l s) (hI : Inv n l) (ht : CTurn Z A cenv y [] elt it D Inv Fin) (hR : ∀ s l, Sat Z l s → Fin l → R (.ok .next) s) :
    codeAny Z.M A (.compLoop (two elt x y px py i0 i1 scope pos) 1 (.ref it) (.ref D) cenv) R s := by
  refine codeAny_loop rfl (fun n s => ∃ l, Sat Z l s ∧ Inv n l) (fun n s hn => ?_) n ⟨l, hs, hI⟩
  show wpAny _ A ((compTurn (two elt x y px py i0 i1 scope pos) 1 (.ref it) (.ref D) cenv).onRaise (fun x => do noteFrame x cenv; theTreesLotGoes x)) _ _ s
  refine wpAny_noted ?_
  rw [turn1]
  obtain ⟨l3, h3, hI⟩ := hn
  refine wpAny_bind (wpAny_standAt (wpAny_bind ?_))
  rcases ht n l3 hI with ⟨l4, hN, hF⟩ | ⟨v, l4, hN, hst⟩
  · exact hN s _ _ h3 fun s' h' => wpAny_pure (hR _ _ h' hF)
  · refine hN s _ _ h3 fun u s4 e h4 => ?_
    refine wpAny_bind (wpAny_pure (wpAny_bind ?_))
    refine wpAny_assign_Name (wpAny_mono (hst u e s4 _ h4 fun _ s5 l5 h5 g5 => wpAny_mono (g5 s5 _ h5 fun b s6 l6 h6 g6 => ?_) (fun _ _ q => q) (fun _ _ q => q.elim)) (fun _ _ q => wpAny_bind q) (fun _ _ q => q.elim))
    cases b with
    | false =>
      obtain ⟨m, l7, hm, hsb, hi⟩ := g6.2 rfl
      exact wpAny_pure ⟨rfl, m, hm, l7, h6.subperm hsb, hi⟩
    | true =>
      refine wpAny_bind (wpAny_bind (wpAny_mono (g6.1 rfl s6 _ h6 fun u s7 l7 h7 g7 => ?_) (fun _ _ q => q) (fun _ _ q => q.elim)))
      obtain ⟨xs, l8, U, hz, m, l9, hm, hsb, hi⟩ := g7
      obtain ⟨its, k, hL, rfl⟩ := h7.listAt U.mem
      refine wpAny_bind (append_at (n := k) hL (fun h' hB ho => wpAny_pure (wpAny_pure ⟨rfl, m, hm, l9, Sat.subperm (h7.up (tk := s7.toks) U (fun b hb o e => (hB.2 b hb).trans e) ho ⟨_, _, rfl, by simp⟩) hsb, hi⟩)) (by simp only [List.length_map, Array.length_toList] at hz; exact Nat.le_trans hz (by decide)))
noncomputable def CTurn2 (Z : Amb) (A : Around) (env : Env) (x y : Str) (i1 elt : Expr) (it D : Addr) (Inv : Nat → Led → Prop) (Fin : Led → Prop) : Prop :=
  ∀ n l3, Inv n l3 → TurnK Z A it l3 Fin (storeName env x) (fun l5 => EV Z A env i1 l5 (fun w l6 => ITER Z A w l6 (fun it2 l7 => SELF Z A it2 l7 ∧ CompK Z A env y [] elt it2 D (Dot Inv n) l7) noX) noX)
inductive CompK2 (Z : Amb) (A : Around) (env : Env) (x y : Str) (i1 elt : Expr) (it D : Addr) (Fin : Led → Prop) (l : Led) : Prop
  | mk (Inv : Nat → Led → Prop) (n : Nat) (h0 : Inv n l) (turn : CTurn2 Z A env x y i1 elt it D Inv Fin)
theorem start_in {elt i0 i1 : Expr} {x y : Str} {px py : Pos} {scope : Scope} {pos : Pos} {it : Addr} {acc : Value} {cenv : Env} {R : Result → Shared → Prop} {s : Shared}
    (hs : Sat Z l s) (hself : SELF Z A it l) (h0 : codeAny Z.M A (.compLoop (two elt x y px py i0 i1 scope pos) 1 (.ref it) acc cenv) R s) :
    codeAny Z.M A (.compStart (two elt x y px py i0 i1 scope pos) 1 (.ref it) acc cenv) R s := by
  refine codeAny_of_tree ?_
  show wpAny _ _ ((compStart (two elt x y px py i0 i1 scope pos) 1 (.ref it) acc cenv).onRaise (fun x => do noteFrame x cenv; standAt theWindowsPlace)) _ _ s
  refine wpAny_notedAt ?_
  unfold compStart
  show wpAny _ _ (ask >>= _) _ _ s
  refine wpAny_bind (wpAny_askSetting (wpAny_ite ?_))
  split
  · first
      | exact wpAny_bind (wpAny_pure (wpAny_pure (And.intro rfl h0)))
      | exact wpAny_pure (And.intro rfl h0)
  · have h : wpAny Z.M A (pyIter (.ref it)) (fun it' s' => codeAny Z.M A (.compLoop (two elt x y px py i0 i1 scope pos) 1 it' acc cenv) R s') (notedBy Z.M A cenv fun x s' => R (.error x) s') s := hself s _ _ hs h0
    first
      | exact wpAny_bind (wpAny_rule (wpAny_bind (wpAny_standAt (wpAny_bind (wpAny_mono h (fun it' s' h' => wpAny_pure (And.intro rfl h')) fun _ _ x => x)))))
      | (refine wpAny_bind (wpAny_rule ?_); show wpAny _ _ (standAt i1.pos >>= _) _ _ s; exact wpAny_bind (wpAny_standAt (wpAny_bind (wpAny_mono h (fun it' s' h' => wpAny_pure (And.intro rfl h')) fun _ _ x => x))))
theorem loop_out {elt i0 i1 : Expr} {x y : Str} {px py : Pos} {scope : Scope} {pos : Pos} {it D : Addr} {cenv : Env} {Inv : Nat → Led → Prop} {Fin : Led → Prop} {R : Result → Shared → Prop} {n : Nat} {s : Shared}
    (hs : Sat Z l s) (hI : Inv n l) (ht : CTurn2 Z A cenv x y i1 elt it D Inv Fin) (hR : ∀ s l, Sat Z l s → Fin l → R (.ok .next) s)
    (hfs : ∀ x, foldedSetIterable i1 cenv x = pure x) :
    codeAny Z.M A (.compLoop (two elt x y px py i0 i1 scope pos) 0 (.ref it) (.ref D) cenv) R s := by
  refine codeAny_loop rfl (fun n s => ∃ l, Sat Z l s ∧ Inv n l) (fun n s hn => ?_) n ⟨l, hs, hI⟩
  show wpAny _ A ((compTurn (two elt x y px py i0 i1 scope pos) 0 (.ref it) (.ref D) cenv).onRaise (fun x => do noteFrame x cenv; theTreesLotGoes x)) _ _ s
  refine wpAny_noted ?_
  rw [turn0]
  obtain ⟨l3, h3, hI⟩ := hn
  refine wpAny_bind (wpAny_standAt (wpAny_bind ?_))
  rcases ht n l3 hI with ⟨l4, hN, hF⟩ | ⟨v, l4, hN, hst⟩
  · exact hN s _ _ h3 fun s' h' => wpAny_pure (hR _ _ h' hF)
  · refine hN s _ _ h3 fun u s4 e h4 => ?_
    refine wpAny_bind (wpAny_pure (wpAny_bind ?_))
    refine wpAny_assign_Name (wpAny_mono (hst u e s4 _ h4 fun _ s5 l5 h5 g5 => ?_) (fun _ _ q => q) (fun _ _ q => q.elim))
    refine wpAny_bind (wpAny_pure ?_)
    show wpAny Z.M A (eval i1 cenv >>= _) _ _ s5
    refine wpAny_bind (wpAny_mono (g5 s5 (fun w s6 => ∃ l6, Sat Z l6 s6 ∧ ITER Z A (er w) l6 (fun it2 l7 => SELF Z A it2 l7 ∧ CompK Z A cenv y [] elt it2 D (Dot Inv n) l7) noX) h5 fun w s6 l6 h6 g6 => ⟨l6, h6, g6⟩) (fun w s6 q => ?_) (fun _ _ q => q.elim))
    obtain ⟨l6, h6, g6⟩ := q
    refine wpAny_bind (wpAny_standAt (wpAny_bind (wpAny_of_eq (hfs w) (wpAny_bind (wpAny_holding (wpAny_mono (g6 w rfl s6 (fun v s7 => ∃ it2 l7, v = .ref it2 ∧ Sat Z l7 s7 ∧ SELF Z A it2 l7 ∧ CompK Z A cenv y [] elt it2 D (Dot Inv n) l7) h6 fun v s7 l7 h7 g7 => ?_) (fun v s7 q => ?_) (fun _ _ q => q.elim)))))))
    · obtain ⟨it2, e2, hself, hh⟩ := g7
      exact ⟨it2, l7, er_ref e2, h7, hself, hh⟩
    · obtain ⟨it2, l7, rfl, h7, hself, Inv2, n2, hI2, ht2⟩ := q
      refine wpAny_bind (wpAny_runOwn (start_in h7 hself (loop_in h7 hI2 ht2 fun s8 l8 h8 hf => ?_)))
      obtain ⟨m, l9, hm, hsb, hi⟩ := hf
      exact wpAny_pure ⟨rfl, m, hm, l9, h8.subperm hsb, hi⟩
theorem lookup_none {m : List (Str × Option AV)} {y : Str} {v : Option AV} (h : ∀ p ∈ m, p.2 = none) (e : m.lookup y = some v) : v = none := by
  induction m with
  | nil => simp at e
  | cons p r ih =>
    obtain ⟨z, u⟩ := p
    rw [List.lookup_cons] at e
    split at e
    · cases e
      exact h _ (.head _)
    · exact ih (fun q hq => h q (.tail _ hq)) e
theorem r_comp2 {elt i0 i1 : Expr} {x y : Str} {px py : Pos} {scope : Scope} {pos : Pos} {m : List (Str × Option AV)} {names' : List (Str × NameKind)} {Q : AV → Led → Prop}
    (hE : EnvIs env L names cells) (hclos : closureFor scope env = pure []) (hN : ∀ y ∈ names', (relabel scope env).names.lookup y.1 = some y.2)
    (hsc : ((scope.names.all fun y => decide (y.2 ≠ .cell)) && decide (scope.kind = .function) && (scope.names.all fun y => y.2 != .local || decide (scope.names.lookup y.1 = some .local)) && decide (m.map (·.1)).Nodup && (m.all fun p => p.2.isNone)) = true)
    (h : EV Z A env i0 l (fun v l1 => ITER Z A v l1 (fun it l2 => (∀ l3, l2.Sublist l3 → SELF Z A it l3) ∧
      ∀ C D cenv, EnvIs cenv C names' [] → CompK2 Z A cenv x y i1 elt it D (CFin C D Q) ((C, .frame m) :: (D, .list []) :: l2)) X) X)
    (hfs : ∀ x, foldedSetIterable i0 env x = pure x := by intro _; rfl) (hfs1 : ∀ cenv x, foldedSetIterable i1 cenv x = pure x := by intro _ _; rfl) :
    EV Z A env (two elt x y px py i0 i1 scope pos) l Q X := by
  intro s Q' hs hQ
  simp only [Bool.and_eq_true, decide_eq_true_eq, List.all_eq_true, Bool.or_eq_true, bne_iff_ne, ne_eq, Option.isNone_iff_eq_none] at hsc
  obtain ⟨⟨⟨⟨c1, c2⟩, c3⟩, c4⟩, c5⟩ := hsc
  show wpAny Z.M A (eval (.ListComp elt [⟨.Name x px, i0, [], 0⟩, ⟨.Name y py, i1, [], 0⟩] scope pos) env) Q' X s
  rw [eval_ListComp]
  refine wpAny_comprehension_free (use := none) rfl hfs hclos c2 (fun y hy e => (c3 y hy).resolve_left (fun q => q e)) (h s _ hs fun v s1 l1 h1 g1 => g1 v rfl s1 _ h1 fun w s2 l2 h2 g2 => ?_)
  obtain ⟨it, e, hself, hh⟩ := g2
  obtain rfl := er_ref e
  have hD : Sat Z ((s2.heap.objs.size, .list []) :: l2) { s2 with heap := s2.heap.push { cls := .type "list", dict := none, data := .seq ([] : List Value).toArray } } :=
    h2.new (tk := s2.toks) (fun b o e => Heap.get?_push_of_some _ e) (Nat.le_refl _) (Heap.get?_push_size _ rfl) ⟨_, 0, rfl, rfl⟩
  refine wpAny_newObj_type (wpAny_newFunctionEnv c1 (by intro y hy; simp at hy) (fun h₁ hns₁ hsb₁ => ?_) c2)
  generalize hH2 : s2.heap.push { cls := .type "list", dict := none, data := .seq ([] : List Value).toArray } = H2 at hns₁ hsb₁ hD ⊢
  have hC : Sat Z ((H2.objs.size, .frame m) :: (s2.heap.objs.size, .list []) :: l2) { { s2 with heap := H2 } with heap := h₁, toks := s2.toks + ([] : List (Str × Value)).length } := by
    obtain ⟨ob, es, ep, h1, h2, h3, h4⟩ := hns₁
    refine hD.new (fun b o e => hsb₁.extBut b o (Nat.ne_of_lt (Heap.lt_size e)) (Heap.get?_push_of_some _ e)) (Nat.le_refl _) h1 ⟨c4, es, ep, h2, h3, fun y => ?_⟩
    rw [h4]
    show _ = look m y
    unfold look
    cases e : m.lookup y with
    | none => rfl
    | some v =>
      have : v = none := lookup_none c5 e
      subst this; rfl
  have hEc : EnvIs (compEnvC scope [] H2.objs.size env) H2.objs.size names' [] := ⟨c2, rfl, hE.glob, hE.blt, hN, fun x hx => by cases hx⟩
  obtain ⟨Inv, n, hI, ht⟩ := hh H2.objs.size s2.heap.objs.size _ hEc
  have loop : codeAny Z.M A (.compLoop (two elt x y px py i0 i1 scope pos) 0 (.ref it) (.ref s2.heap.objs.size) (compEnvC scope [] H2.objs.size env)) (compPost Z.M A X none Q' (.ref s2.heap.objs.size) H2.objs.size) { { s2 with heap := H2 } with heap := h₁, toks := s2.toks + ([] : List (Str × Value)).length } := by
    refine loop_out hC hI ht (fun s3 l3 h3 hf => ?_) (fun x => hfs1 _ x)
    obtain ⟨m', l4, hm', hr, hne, hq⟩ := hf
    obtain ⟨f, hns⟩ := ns_of_frame h3 hm'
    exact ⟨f, hns, fun h' hB => hQ (.ref _) _ _ (h3.rm (tk := s3.toks) hr hB.extBut hne) hq⟩
  exact codeAny_compStart_list loop (hself _ ((List.sublist_cons_self _ _).trans (List.sublist_cons_self _ _)) _ _ _ hC loop)
end
set_option genInjectivity false in
structure PX (Z : Amb) where
  fa : Nat → Addr
  ma : Nat → Addr
  cT : Addr
  cN : Addr
  fN : Addr
  cF : Addr
  cM : Addr
  fM : Addr
  aP : Addr
  fdef : ∀ i ∈ [2,3,4,5,6,7,8,9,10,11,16,17,23,24,25,26,27,28,29,30,31,32,33,34], DefAt Z (fa i) (nm (stAt i)) (nm (stAt i)) (stAt i) ∧ Z.mg (nm (stAt i)) = some (.ref (fa i))
  fT : Addr
  dT : DefAt Z fT "__init__" "Tree.__init__" (inCls (stAt 21) 0)
  dN : DefAt Z fN "__init__" "NodeRow.__init__" (inCls (stAt 20) 0)
  dM : DefAt Z fM "__init__" "MarkupError.__init__" (inCls (stAt 13) 0)
  mkT : makesIn Z.K cT = true ∧ findIn Z.K (.ref cT) "__init__" = some (some (.ref fT)) ∧ isFn Z.K (.ref fT) = true ∧ Z.mg "Tree" = some (.ref cT) ∧ keepIn Z.K (.ref cT) = true
  mkN : makesIn Z.K cN = true ∧ findIn Z.K (.ref cN) "__init__" = some (some (.ref fN)) ∧ isFn Z.K (.ref fN) = true ∧ Z.mg "NodeRow" = some (.ref cN) ∧ keepIn Z.K (.ref cN) = true
  gP : Z.mg "PARENTS" = some (.ref aP)
  kP : ∃ vs n dd sl, Z.K.lookup aP = some ⟨.type "tuple", dd, .seq vs n, sl⟩ ∧ vs.toList.map er = [.str "root", .str "element"]
  aT : attrOk Z.K cT "rows" = true
  aN : ∀ x ∈ (["kind", "name", "uri", "local", "value", "parent", "children", "attributes", "namespaces"] : List Str), attrOk Z.K cN x = true ∧ storeOk' Z.K cN x = true
  sT : storeOk' Z.K cT "rows" = true
  blt : ∀ x ∈ (["list", "len", "str", "range", "sorted"] : List Str), Z.mg x = none
  mdef : ∀ j ∈ [1,2,3,4,5,6,7,8,9,10,11,13,14,17,18,19,20,21], DefAt Z (ma j) (nm (inCls (stAt 21) j)) ("Tree." ++ nm (inCls (stAt 21) j)) (inCls (stAt 21) j) ∧ methOk Z.K cT (nm (inCls (stAt 21) j)) (ma j) = true
structure NodeA where
  x : Addr
  d : Addr
  c : Addr
  a : Addr
  n : Addr
  kind : Str
  name : Str
  uri : Str
  loc : Str
  val : Str
  par : Option Nat
  ch : List Nat
  at' : List Nat
  ns : List Nat
structure TreeA where
  x : Addr
  d : Addr
  r : Addr
  rows : List NodeA
noncomputable abbrev nl (xs : List Nat) : List Int := xs.map fun (n : Nat) => (n : Int)
noncomputable abbrev inl (xs : List Nat) : List AV := il (nl xs)
noncomputable def pav : Option Nat → AV
  | none => .none
  | some p => .int p
noncomputable abbrev nodeD (n : NodeA) : List (Str × AV) := [("kind", .str n.kind), ("name", .str n.name), ("uri", .str n.uri), ("local", .str n.loc), ("value", .str n.val), ("parent", pav n.par), ("children", .ref n.c), ("attributes", .ref n.a), ("namespaces", .ref n.n)]
noncomputable def nodeLed {Z : Amb} (P : PX Z) (n : NodeA) : Led := [(n.x, .inst P.cN n.d), (n.d, .idict (nodeD n)), (n.c, .list (inl n.ch)), (n.a, .list (inl n.at')), (n.n, .list (inl n.ns))]
noncomputable def treeLed {Z : Amb} (P : PX Z) (t : TreeA) : Led := (t.x, .inst P.cT t.d) :: (t.d, .idict [("rows", .ref t.r)]) :: (t.r, .list (t.rows.map fun n => .ref n.x)) :: t.rows.flatMap (nodeLed P)
noncomputable def In (ts l : Led) : Prop := ∀ p ∈ ts, p ∈ l
theorem In.tail {ts l : Led} {p : Addr × AObj} (h : In ts l) : In ts (p :: l) := fun q hq => .tail _ (h q hq)
theorem In.refl (ts : Led) : In ts ts := fun _ h => h
theorem br_t {c : Bool} {P Q : Prop} (h : c = true) (p : P) : (c = true → P) ∧ (c = false → Q) := ⟨fun _ => p, fun e => (by rw [h] at e; cases e)⟩
theorem br_f {c : Bool} {P Q : Prop} (h : c = false) (q : Q) : (c = true → P) ∧ (c = false → Q) := ⟨fun e => (by rw [h] at e; cases e), fun _ => q⟩
theorem rb_t {c : Bool} {P Q : Prop} (h : c = true) (p : P) : (c = false → Q) ∧ (c = true → P) := ⟨fun e => (by rw [h] at e; cases e), fun _ => p⟩
theorem rb_f {c : Bool} {P Q : Prop} (h : c = false) (q : Q) : (c = false → Q) ∧ (c = true → P) := ⟨fun _ => q, fun e => (by rw [h] at e; cases e)⟩
theorem ctf {G : Prop} (e : true = false) : G := by cases e
theorem cft {G : Prop} (e : false = true) : G := by cases e
theorem dec_lt {a b : Nat} (h : b + 1 ≤ a) : a - (b + 1) < a - b := by omega
theorem len_map_le {α β : Type} {f : α → β} {l : List α} {n : Nat} (h : l.length ≤ n) : (l.map f).length ≤ n := by rw [List.length_map]; exact h
theorem mh {α : Type} {a : α} {l : List α} : a ∈ a :: l := .head _
theorem mt {α : Type} {a b : α} {l : List α} (h : a ∈ l) : a ∈ b :: l := .tail _ h
local macro_rules | `(tactic| lcg_sub) => `(tactic| first | (with_reducible exact mh) | ((with_reducible refine mt ?_); lcg_sub) | assumption)
local macro_rules | `(tactic| lcg_src) => `(tactic| first | assumption | exact In.refl _ | (refine In.tail ?_; lcg_src))
local macro_rules | `(tactic| ktu_offI) => `(tactic| first | (with_reducible exact FSet.head) | ((with_reducible apply FSet.tail); ktu_offI))
local macro_rules | `(tactic| ktu_offL) => `(tactic| first | (with_reducible exact DSet.head) | ((with_reducible apply DSet.tail); ktu_offL))
local macro_rules | `(tactic| krn_off) => `(tactic| first | (with_reducible exact Up1.head) | ((with_reducible apply Up1.tail); krn_off))
local macro_rules | `(tactic| lcg_off) => `(tactic| first | (with_reducible exact Rm.head) | ((with_reducible apply Rm.tail); lcg_off))
theorem nd_1 {n : NodeA} : (("kind" : Str), AV.str n.kind) ∈ nodeD n := .head _
theorem nd_2 {n : NodeA} : (("name" : Str), AV.str n.name) ∈ nodeD n := .tail _ (.head _)
theorem nd_3 {n : NodeA} : (("uri" : Str), AV.str n.uri) ∈ nodeD n := .tail _ (.tail _ (.head _))
theorem nd_4 {n : NodeA} : (("local" : Str), AV.str n.loc) ∈ nodeD n := .tail _ (.tail _ (.tail _ (.head _)))
theorem nd_5 {n : NodeA} : (("value" : Str), AV.str n.val) ∈ nodeD n := .tail _ (.tail _ (.tail _ (.tail _ (.head _))))
theorem nd_6 {n : NodeA} : (("parent" : Str), pav n.par) ∈ nodeD n := .tail _ (.tail _ (.tail _ (.tail _ (.tail _ (.head _)))))
theorem nd_7 {n : NodeA} : (("children" : Str), AV.ref n.c) ∈ nodeD n := .tail _ (.tail _ (.tail _ (.tail _ (.tail _ (.tail _ (.head _))))))
theorem nd_8 {n : NodeA} : (("attributes" : Str), AV.ref n.a) ∈ nodeD n := .tail _ (.tail _ (.tail _ (.tail _ (.tail _ (.tail _ (.tail _ (.head _)))))))
theorem nd_9 {n : NodeA} : (("namespaces" : Str), AV.ref n.n) ∈ nodeD n := .tail _ (.tail _ (.tail _ (.tail _ (.tail _ (.tail _ (.tail _ (.tail _ (.head _))))))))
theorem boot_len : bootBuiltins "len" = some (.builtin "len") := by rfl
theorem rc_len {Z : Amb} {A : Around} {env : Env} {l : Led} {X : Value → Shared → Prop} {L : Addr} {names : List (Str × NameKind)} {cells : List (Str × Addr)} {np pos : Pos} {e : Expr} {Q : AV → Led → Prop} (P : PX Z) (hE : EnvIs env L names cells) (hk : (("len" : Str), NameKind.globalImplicit) ∈ names)
    (h : EV Z A env e l (fun v l1 => CL Z A (.builtin "len") [v] l1 Q X) X) (h1 : starEach [e] env = (false, eval e env) :: starEach [] env := by rfl) : EV Z A env (.Call (.Name "len" np) [e] [] pos) l Q X :=
  r_callb hE hk (P.blt _ (by decide)) boot_len (a_cons (TR.mono h fun v l1 h => a_nil h) h1) (by decide) (by decide) h1 rfl
theorem boot_sorted : bootBuiltins "sorted" = some (.builtin "sorted") := by rfl
theorem rc_sorted {Z : Amb} {A : Around} {env : Env} {l : Led} {X : Value → Shared → Prop} {L : Addr} {names : List (Str × NameKind)} {cells : List (Str × Addr)} {np pos : Pos} {e : Expr} {Q : AV → Led → Prop} (P : PX Z) (hE : EnvIs env L names cells) (hk : (("sorted" : Str), NameKind.globalImplicit) ∈ names)
    (h : EV Z A env e l (fun v l1 => CL Z A (.builtin "sorted") [v] l1 Q X) X) (h1 : starEach [e] env = (false, eval e env) :: starEach [] env := by rfl) : EV Z A env (.Call (.Name "sorted" np) [e] [] pos) l Q X :=
  r_callb hE hk (P.blt _ (by decide)) boot_sorted (a_cons (TR.mono h fun v l1 h => a_nil h) h1) (by decide) (by decide) h1 rfl
theorem boot_list : bootBuiltins "list" = some (.type "list") := by rfl
theorem rc_list {Z : Amb} {A : Around} {env : Env} {l : Led} {X : Value → Shared → Prop} {L : Addr} {names : List (Str × NameKind)} {cells : List (Str × Addr)} {np pos : Pos} {e : Expr} {Q : AV → Led → Prop} (P : PX Z) (hE : EnvIs env L names cells) (hk : (("list" : Str), NameKind.globalImplicit) ∈ names)
    (h : EV Z A env e l (fun v l1 => CL Z A (.type "list") [v] l1 Q X) X) (h1 : starEach [e] env = (false, eval e env) :: starEach [] env := by rfl) : EV Z A env (.Call (.Name "list" np) [e] [] pos) l Q X :=
  r_callt hE hk (P.blt _ (by decide)) boot_list (a_cons (TR.mono h fun v l1 h => a_nil h) h1) (by decide) (by decide) h1 rfl
theorem boot_str : bootBuiltins "str" = some (.type "str") := by rfl
theorem rc_str {Z : Amb} {A : Around} {env : Env} {l : Led} {X : Value → Shared → Prop} {L : Addr} {names : List (Str × NameKind)} {cells : List (Str × Addr)} {np pos : Pos} {e : Expr} {Q : AV → Led → Prop} (P : PX Z) (hE : EnvIs env L names cells) (hk : (("str" : Str), NameKind.globalImplicit) ∈ names)
    (h : EV Z A env e l (fun v l1 => CL Z A (.type "str") [v] l1 Q X) X) (h1 : starEach [e] env = (false, eval e env) :: starEach [] env := by rfl) : EV Z A env (.Call (.Name "str" np) [e] [] pos) l Q X :=
  r_callt hE hk (P.blt _ (by decide)) boot_str (a_cons (TR.mono h fun v l1 h => a_nil h) h1) (by decide) (by decide) h1 rfl
theorem boot_range : bootBuiltins "range" = some (.type "range") := by rfl
theorem rc_range {Z : Amb} {A : Around} {env : Env} {l : Led} {X : Value → Shared → Prop} {L : Addr} {names : List (Str × NameKind)} {cells : List (Str × Addr)} {np pos : Pos} {e : Expr} {Q : AV → Led → Prop} (P : PX Z) (hE : EnvIs env L names cells) (hk : (("range" : Str), NameKind.globalImplicit) ∈ names)
    (h : EV Z A env e l (fun v l1 => CL Z A (.type "range") [v] l1 Q X) X) (h1 : starEach [e] env = (false, eval e env) :: starEach [] env := by rfl) : EV Z A env (.Call (.Name "range" np) [e] [] pos) l Q X :=
  r_callt hE hk (P.blt _ (by decide)) boot_range (a_cons (TR.mono h fun v l1 h => a_nil h) h1) (by decide) (by decide) h1 rfl
theorem t_cons {Z : Amb} {A : Around} {env : Env} {l : Led} {X : Value → Shared → Prop} {st : Stmt} {rest : List Stmt} {Q : AFlow → Led → Prop} (h : S1 Z A env st l (thenS Z A env rest Q X) X) : thenS Z A env (st :: rest) Q X .next l := s_cons h
theorem t_nil {Z : Amb} {A : Around} {env : Env} {l : Led} {X : Value → Shared → Prop} {Q : AFlow → Led → Prop} (h : Q .next l) : thenS Z A env [] Q X .next l := s_nil h
theorem thn {Z : Amb} {A : Around} {env : Env} {l : Led} {X : Value → Shared → Prop} {rest : List Stmt} {Q : AFlow → Led → Prop} (h : SV Z A env rest l Q X) : thenS Z A env rest Q X .next l := h
theorem thr {Z : Amb} {A : Around} {env : Env} {l : Led} {X : Value → Shared → Prop} {rest : List Stmt} {Q : AFlow → Led → Prop} {v : AV} (h : Q (.ret v) l) : thenS Z A env rest Q X (.ret v) l := h
theorem st_loc {Z : Amb} {A : Around} {env : Env} {l l' : Led} {X : Value → Shared → Prop} {L : Addr} {names : List (Str × NameKind)} {cells : List (Str × Addr)} {x : Str} {v : AV} {m m' : List (Str × Option AV)} {Q : Led → Prop} (hE : EnvIs env L names cells) (hk : (x, NameKind.local) ∈ names) (hm : (L, .frame m) ∈ l) (F : FSet x v m m') (U : Up1 L (.frame m) (.frame m') l l') (h : Q l') :
    ST Z A (storeName env x) v l Q X := st_local hE hk F U h
theorem r_negc {Z : Amb} {A : Around} {env : Env} {l : Led} {X : Value → Shared → Prop} {i : Int} {k : Nat} {p pos : Pos} {Q : AV → Led → Prop} (h : Q (.int (-i)) l) : EV Z A env (.UnaryOp .USub (.Constant (.int i) k p) pos) l Q X := r_neg (r_int ⟨_, rfl, h⟩)
theorem Room.hh {A : Around} {k : Nat} (h : Room A k) : A.handled = none := h.1
theorem att_tree {Z : Amb} {P : PX Z} {x d : Addr} {v : AV} {Q : AV → Led → Prop} {l : Led} (hx : (x, .inst P.cT d) ∈ l) (hd : (d, .idict [("rows", v)]) ∈ l) (hp : v.plain = true) (q : Q v l) : AttK Z "rows" Q (.ref x) l :=
  ⟨x, _, d, _, v, rfl, hx, hd, .head _, P.aT, hp, q⟩
theorem att_node {Z : Amb} {P : PX Z} {x d : Addr} {n : NodeA} {name : Str} {v : AV} {Q : AV → Led → Prop} {l : Led} (hx : (x, .inst P.cN d) ∈ l) (hd : (d, .idict (nodeD n)) ∈ l) (hv : (name, v) ∈ nodeD n) (hp : v.plain = true) (q : Q v l) : AttK Z name Q (.ref x) l :=
  ⟨x, _, d, _, v, rfl, hx, hd, hv, (P.aN name (List.mem_map_of_mem (f := fun p => p.1) hv)).1, hp, q⟩
theorem mN1 : nm (inCls (stAt 21) 1) = "new_row" := by rfl
theorem mN2 : nm (inCls (stAt 21) 2) = "row" := by rfl
theorem mN3 : nm (inCls (stAt 21) 3) = "new_root" := by rfl
theorem mN4 : nm (inCls (stAt 21) 4) = "add_child" := by rfl
theorem mN5 : nm (inCls (stAt 21) 5) = "add_element" := by rfl
theorem mN6 : nm (inCls (stAt 21) 6) = "add_text" := by rfl
theorem mN7 : nm (inCls (stAt 21) 7) = "add_comment" := by rfl
theorem mN8 : nm (inCls (stAt 21) 8) = "add_instruction" := by rfl
theorem mN9 : nm (inCls (stAt 21) 9) = "element_row" := by rfl
theorem mN10 : nm (inCls (stAt 21) 10) = "set_attribute" := by rfl
theorem mN11 : nm (inCls (stAt 21) 11) = "add_namespace" := by rfl
theorem mN13 : nm (inCls (stAt 21) 13) = "kind" := by rfl
theorem mN14 : nm (inCls (stAt 21) 14) = "name" := by rfl
theorem mN17 : nm (inCls (stAt 21) 17) = "value" := by rfl
theorem mN18 : nm (inCls (stAt 21) 18) = "parent" := by rfl
theorem mN19 : nm (inCls (stAt 21) 19) = "children" := by rfl
theorem mN20 : nm (inCls (stAt 21) 20) = "attributes" := by rfl
theorem mN21 : nm (inCls (stAt 21) 21) = "namespaces" := by rfl
theorem met_t {Z : Amb} {P : PX Z} (j : Nat) (hj : j ∈ [1,2,3,4,5,6,7,8,9,10,11,13,14,17,18,19,20,21]) {x d : Addr} {v : AV} {name : Str} {K : Addr → Addr → Led → Prop} {l : Led} (hx : (x, .inst P.cT d) ∈ l) (hd : (d, .idict [("rows", v)]) ∈ l) (hn : name ≠ "rows") (q : K (P.ma j) x l) (e : nm (inCls (stAt 21) j) = name) : MetK Z name K (.ref x) l := by
  subst e
  exact ⟨x, _, d, _, _, rfl, hx, hd, fun h => hn (List.mem_singleton.mp h), (P.mdef j hj).2, q⟩
local macro_rules | `(tactic| tlg_ne) => `(tactic| refine r_name (by assumption) (by lcg_sub) (by lcg_sub) (by lcg_sub) ?_)
local macro_rules | `(tactic| isplit) => `(tactic| refine st_loc (by assumption) (by lcg_sub) (by lcg_sub) (by ktu_offI) (by krn_off) ?_)
section
variable {Z : Amb} {A : Around} {l : Led} {X : Value → Shared → Prop}
theorem CL.perm {f : Value} {args : List AV} {l l2 : Led} {Q : AV → Led → Prop} (hp : l2.Perm l) (h : CL Z A f args l2 Q X) : CL Z A f args l Q X := fun vs e => (h vs e).perm hp
theorem Up.here {Q : Led → Prop} {l : Led} (h : Q l) : Up Q l := ⟨l, ⟨l, .refl _, .refl _⟩, h⟩
theorem Up.drop {Q : Led → Prop} {l : Led} {p : Addr × AObj} (h : Up Q l) : Up Q (p :: l) := by
  obtain ⟨l', ⟨m, h1, h2⟩, hq⟩ := h
  exact ⟨l', ⟨m, h1, h2.cons _⟩, hq⟩
theorem tree_in {P : PX Z} {t : TreeA} (h : In (treeLed P t) l) : (t.x, .inst P.cT t.d) ∈ l ∧ (t.d, .idict [("rows", .ref t.r)]) ∈ l ∧ (t.r, .list (t.rows.map fun n => .ref n.x)) ∈ l :=
  ⟨h _ (.head _), h _ (.tail _ (.head _)), h _ (.tail _ (.tail _ (.head _)))⟩
theorem node_in {P : PX Z} {t : TreeA} {n : NodeA} (h : In (treeLed P t) l) (hn : n ∈ t.rows) : (n.x, .inst P.cN n.d) ∈ l ∧ (n.d, .idict (nodeD n)) ∈ l ∧ (n.c, .list (inl n.ch)) ∈ l ∧ (n.a, .list (inl n.at')) ∈ l ∧ (n.n, .list (inl n.ns)) ∈ l := by
  have : ∀ p ∈ nodeLed P n, p ∈ l := fun p hp => h _ (.tail _ (.tail _ (.tail _ (List.mem_flatMap.mpr ⟨n, hn, hp⟩))))
  exact ⟨this _ (.head _), this _ (.tail _ (.head _)), this _ (.tail _ (.tail _ (.head _))), this _ (.tail _ (.tail _ (.tail _ (.head _)))), this _ (.tail _ (.tail _ (.tail _ (.tail _ (.head _)))))⟩
theorem tree_in1 {P : PX Z} {t : TreeA} (h : In (treeLed P t) l) : (t.x, .inst P.cT t.d) ∈ l := (tree_in h).1
theorem tree_in2 {P : PX Z} {t : TreeA} (h : In (treeLed P t) l) : (t.d, .idict [("rows", .ref t.r)]) ∈ l := (tree_in h).2.1
theorem tree_in3 {P : PX Z} {t : TreeA} (h : In (treeLed P t) l) : (t.r, .list (t.rows.map fun n => .ref n.x)) ∈ l := (tree_in h).2.2
theorem node_in1 {P : PX Z} {t : TreeA} {n : NodeA} (h : In (treeLed P t) l) (hn : n ∈ t.rows) : (n.x, .inst P.cN n.d) ∈ l := (node_in h hn).1
theorem node_in2 {P : PX Z} {t : TreeA} {n : NodeA} (h : In (treeLed P t) l) (hn : n ∈ t.rows) : (n.d, .idict (nodeD n)) ∈ l := (node_in h hn).2.1
theorem node_in3 {P : PX Z} {t : TreeA} {n : NodeA} (h : In (treeLed P t) l) (hn : n ∈ t.rows) : (n.c, .list (inl n.ch)) ∈ l := (node_in h hn).2.2.1
theorem node_in4 {P : PX Z} {t : TreeA} {n : NodeA} (h : In (treeLed P t) l) (hn : n ∈ t.rows) : (n.a, .list (inl n.at')) ∈ l := (node_in h hn).2.2.2.1
theorem node_in5 {P : PX Z} {t : TreeA} {n : NodeA} (h : In (treeLed P t) l) (hn : n ∈ t.rows) : (n.n, .list (inl n.ns)) ∈ l := (node_in h hn).2.2.2.2
theorem row_ok (P : PX Z) {t : TreeA} {i : Nat} {nd : NodeA} {Q : AV → Led → Prop} (hT : In (treeLed P t) l) (hi : t.rows[i]? = some nd) (hz : t.rows.length ≤ 100) (hr : Room A 2)
    (h : Q (.ref nd.x) l) : CD Z A (.ref (P.ma 2)) [.ref t.x, .int i] l Q X := by
  obtain ⟨hD, hM⟩ := P.mdef 2 (by decide)
  refine cd_fn hD (m := [("self", some (.ref t.x)), ("node", some (.int i))]) (names := [("self", .local), ("node", .local), ("len", .globalImplicit), ("TreeFault", .globalImplicit)]) (ps := ["self", "node"]) (others := []) rfl rfl (fun doc pm cdv ct => bind2 fun u v => rfl) (by decide) rfl (k := 1) hr ?_
  intro env L A' hE hr'
  have m1 := tree_in1 hT
  have m2 := tree_in2 hT
  have m3 := tree_in3 hT
  have hlen : i < t.rows.length := (List.getElem?_eq_some_iff.mp hi).1
  refine s_cons ?_
  refine s_if ?_
  refine t_not ?_
  refine t_chain2 ?_
  refine r_int ?_
  tlg_ne
  refine c_lei ?_
  refine rb_t (decide_eq_true (by omega)) ?_
  refine rc_len (by assumption) (by assumption) (by lcg_sub) ?_
  refine r_attr ?_
  tlg_ne
  first | refine att_tree (by lcg_sub) (by lcg_sub) rfl ?_ | refine att_node (by lcg_sub) (by lcg_sub) (by first | (with_reducible exact nd_1) | (with_reducible exact nd_2) | (with_reducible exact nd_3) | (with_reducible exact nd_4) | (with_reducible exact nd_5) | (with_reducible exact nd_6) | (with_reducible exact nd_7) | (with_reducible exact nd_8) | (with_reducible exact nd_9)) (by first | rfl | assumption) ?_ | refine AttK.mk _ _ _ _ _ rfl (by lcg_sub) (by lcg_sub) (by lcg_sub) (by first | exact PX.aT _ | exact (PX.aN _ _ (by decide)).1) (by first | rfl | assumption) ?_
  refine b_len (by lcg_sub) (by simpa using Nat.le_trans hz (by decide)) ?_
  refine c_lti (br_f ?_ ?_)
  · simp [hlen]
  refine s_nil ?_
  refine t_cons ?_
  refine s_ret ?_
  refine r_sub ?_
  refine r_attr ?_
  tlg_ne
  first | refine att_tree (by lcg_sub) (by lcg_sub) rfl ?_ | refine att_node (by lcg_sub) (by lcg_sub) (by first | (with_reducible exact nd_1) | (with_reducible exact nd_2) | (with_reducible exact nd_3) | (with_reducible exact nd_4) | (with_reducible exact nd_5) | (with_reducible exact nd_6) | (with_reducible exact nd_7) | (with_reducible exact nd_8) | (with_reducible exact nd_9)) (by first | rfl | assumption) ?_ | refine AttK.mk _ _ _ _ _ rfl (by lcg_sub) (by lcg_sub) (by lcg_sub) (by first | exact PX.aT _ | exact (PX.aN _ _ (by decide)).1) (by first | rfl | assumption) ?_
  tlg_ne
  refine i_list (v := .ref nd.x) (by lcg_sub) (by omega) (by omega) (by simp [hi]) ?_
  refine thr ?_
  exact Up.drop (Up.here h)
theorem get_ok (P : PX Z) {t : TreeA} {i : Nat} {nd : NodeA} {Q : AV → Led → Prop} {j : Nat} (hj : j ∈ [13, 14, 17, 18]) (hT : In (treeLed P t) l) (hi : t.rows[i]? = some nd) (hz : t.rows.length ≤ 100) (hr : Room A 4)
    (h13 : j = 13 → Q (.str nd.kind) l) (h14 : j = 14 → Q (.str nd.name) l) (h17 : j = 17 → Q (.str nd.val) l) (h18 : j = 18 → Q (pav nd.par) l) : CD Z A (.ref (P.ma j)) [.ref t.x, .int i] l Q X := by
  have m1 := tree_in1 hT
  have m2 := tree_in2 hT
  have m3 := tree_in3 hT
  have n1 := node_in1 hT (List.mem_of_getElem? hi)
  have n2 := node_in2 hT (List.mem_of_getElem? hi)
  have n3 := node_in3 hT (List.mem_of_getElem? hi)
  have n4 := node_in4 hT (List.mem_of_getElem? hi)
  have n5 := node_in5 hT (List.mem_of_getElem? hi)
  simp only [List.mem_cons, List.not_mem_nil, or_false] at hj
  have hp : (pav nd.par).plain = true := by cases nd.par <;> rfl
  rcases hj with rfl | rfl | rfl | rfl
  · refine cd_fn (P.mdef 13 (by decide)).1 (m := [("self", some (.ref t.x)), ("node", some (.int i))]) (names := [("self", .local), ("node", .local)]) (ps := ["self", "node"]) (others := []) rfl rfl (fun doc pm cdv ct => bind2 fun u v => rfl) (by decide) rfl (k := 3) hr ?_
    intro env L A' hE hr'
    refine s_cons ?_
    refine s_ret ?_
    refine r_attr ?_
    refine m_own ?_
    tlg_ne
    refine met_t 2 (by decide) (by lcg_sub) (by lcg_sub) (by decide) ?_ mN2
    refine a_cons ?_
    tlg_ne
    refine a_nil ?_
    refine CD.cl (row_ok P (by lcg_src) hi hz (hr'.le (by decide)) ?_)
    first | refine att_tree (by lcg_sub) (by lcg_sub) rfl ?_ | refine att_node (by lcg_sub) (by lcg_sub) (by first | (with_reducible exact nd_1) | (with_reducible exact nd_2) | (with_reducible exact nd_3) | (with_reducible exact nd_4) | (with_reducible exact nd_5) | (with_reducible exact nd_6) | (with_reducible exact nd_7) | (with_reducible exact nd_8) | (with_reducible exact nd_9)) (by first | rfl | assumption) ?_ | refine AttK.mk _ _ _ _ _ rfl (by lcg_sub) (by lcg_sub) (by lcg_sub) (by first | exact PX.aT _ | exact (PX.aN _ _ (by decide)).1) (by first | rfl | assumption) ?_
    refine thr ?_
    exact Up.drop (Up.here (h13 rfl))
  · refine cd_fn (P.mdef 14 (by decide)).1 (m := [("self", some (.ref t.x)), ("node", some (.int i))]) (names := [("self", .local), ("node", .local)]) (ps := ["self", "node"]) (others := []) rfl rfl (fun doc pm cdv ct => bind2 fun u v => rfl) (by decide) rfl (k := 3) hr ?_
    intro env L A' hE hr'
    refine s_cons ?_
    refine s_ret ?_
    refine r_attr ?_
    refine m_own ?_
    tlg_ne
    refine met_t 2 (by decide) (by lcg_sub) (by lcg_sub) (by decide) ?_ mN2
    refine a_cons ?_
    tlg_ne
    refine a_nil ?_
    refine CD.cl (row_ok P (by lcg_src) hi hz (hr'.le (by decide)) ?_)
    first | refine att_tree (by lcg_sub) (by lcg_sub) rfl ?_ | refine att_node (by lcg_sub) (by lcg_sub) (by first | (with_reducible exact nd_1) | (with_reducible exact nd_2) | (with_reducible exact nd_3) | (with_reducible exact nd_4) | (with_reducible exact nd_5) | (with_reducible exact nd_6) | (with_reducible exact nd_7) | (with_reducible exact nd_8) | (with_reducible exact nd_9)) (by first | rfl | assumption) ?_ | refine AttK.mk _ _ _ _ _ rfl (by lcg_sub) (by lcg_sub) (by lcg_sub) (by first | exact PX.aT _ | exact (PX.aN _ _ (by decide)).1) (by first | rfl | assumption) ?_
    refine thr ?_
    exact Up.drop (Up.here (h14 rfl))
  · refine cd_fn (P.mdef 17 (by decide)).1 (m := [("self", some (.ref t.x)), ("node", some (.int i))]) (names := [("self", .local), ("node", .local)]) (ps := ["self", "node"]) (others := []) rfl rfl (fun doc pm cdv ct => bind2 fun u v => rfl) (by decide) rfl (k := 3) hr ?_
    intro env L A' hE hr'
    refine s_cons ?_
    refine s_ret ?_
    refine r_attr ?_
    refine m_own ?_
    tlg_ne
    refine met_t 2 (by decide) (by lcg_sub) (by lcg_sub) (by decide) ?_ mN2
    refine a_cons ?_
    tlg_ne
    refine a_nil ?_
    refine CD.cl (row_ok P (by lcg_src) hi hz (hr'.le (by decide)) ?_)
    first | refine att_tree (by lcg_sub) (by lcg_sub) rfl ?_ | refine att_node (by lcg_sub) (by lcg_sub) (by first | (with_reducible exact nd_1) | (with_reducible exact nd_2) | (with_reducible exact nd_3) | (with_reducible exact nd_4) | (with_reducible exact nd_5) | (with_reducible exact nd_6) | (with_reducible exact nd_7) | (with_reducible exact nd_8) | (with_reducible exact nd_9)) (by first | rfl | assumption) ?_ | refine AttK.mk _ _ _ _ _ rfl (by lcg_sub) (by lcg_sub) (by lcg_sub) (by first | exact PX.aT _ | exact (PX.aN _ _ (by decide)).1) (by first | rfl | assumption) ?_
    refine thr ?_
    exact Up.drop (Up.here (h17 rfl))
  · refine cd_fn (P.mdef 18 (by decide)).1 (m := [("self", some (.ref t.x)), ("node", some (.int i))]) (names := [("self", .local), ("node", .local)]) (ps := ["self", "node"]) (others := []) rfl rfl (fun doc pm cdv ct => bind2 fun u v => rfl) (by decide) rfl (k := 3) hr ?_
    intro env L A' hE hr'
    refine s_cons ?_
    refine s_ret ?_
    refine r_attr ?_
    refine m_own ?_
    tlg_ne
    refine met_t 2 (by decide) (by lcg_sub) (by lcg_sub) (by decide) ?_ mN2
    refine a_cons ?_
    tlg_ne
    refine a_nil ?_
    refine CD.cl (row_ok P (by lcg_src) hi hz (hr'.le (by decide)) ?_)
    first | refine att_tree (by lcg_sub) (by lcg_sub) rfl ?_ | refine att_node (by lcg_sub) (by lcg_sub) (by first | (with_reducible exact nd_1) | (with_reducible exact nd_2) | (with_reducible exact nd_3) | (with_reducible exact nd_4) | (with_reducible exact nd_5) | (with_reducible exact nd_6) | (with_reducible exact nd_7) | (with_reducible exact nd_8) | (with_reducible exact nd_9)) (by first | rfl | assumption) ?_ | refine AttK.mk _ _ _ _ _ rfl (by lcg_sub) (by lcg_sub) (by lcg_sub) (by first | exact PX.aT _ | exact (PX.aN _ _ (by decide)).1) (by first | rfl | assumption) ?_
    refine thr ?_
    exact Up.drop (Up.here (h18 rfl))
end
theorem bind3 {fd : FuncData} {p q r : Str} {a b c : AV} (h : ∀ u v w, bindArgs fd ⟨[u, v, w], []⟩ = pure [(p, u), (q, v), (r, w)]) : ∀ vs : List Value, vs.map er = [a, b, c] → bindArgs fd ⟨vs, []⟩ = pure ([p, q, r].zip vs) := by
  intro vs e
  obtain ⟨u, v, w, rfl, _, _⟩ := three_of e
  exact h u v w
theorem cons_of {vs : List Value} {a : AV} {r : List AV} (e : vs.map er = a :: r) : ∃ u us, vs = u :: us ∧ er u = a ∧ us.map er = r := by
  cases vs with
  | nil => simp at e
  | cons u us => simp only [List.map_cons, List.cons.injEq] at e; exact ⟨u, us, rfl, e.1, e.2⟩
theorem bind4 {fd : FuncData} {p q r s : Str} {a b c d : AV} (h : ∀ u v w x, bindArgs fd ⟨[u, v, w, x], []⟩ = pure [(p, u), (q, v), (r, w), (s, x)]) : ∀ vs : List Value, vs.map er = [a, b, c, d] → bindArgs fd ⟨vs, []⟩ = pure ([p, q, r, s].zip vs) := by
  intro vs e
  obtain ⟨u, us, rfl, _, e⟩ := cons_of e
  obtain ⟨v, w, x, rfl, _, _⟩ := three_of e
  exact h u v w x
theorem bind5 {fd : FuncData} {p q r s t : Str} {a b c d e' : AV} (h : ∀ u v w x y, bindArgs fd ⟨[u, v, w, x, y], []⟩ = pure [(p, u), (q, v), (r, w), (s, x), (t, y)]) : ∀ vs : List Value, vs.map er = [a, b, c, d, e'] → bindArgs fd ⟨vs, []⟩ = pure ([p, q, r, s, t].zip vs) := by
  intro vs e
  obtain ⟨u, us, rfl, _, e⟩ := cons_of e
  obtain ⟨u2, us, rfl, _, e⟩ := cons_of e
  obtain ⟨v, w, x, rfl, _, _⟩ := three_of e
  exact h u u2 v w x
theorem bind6 {fd : FuncData} {p q r s t o : Str} {a b c d e' f : AV} (h : ∀ u v w x y z, bindArgs fd ⟨[u, v, w, x, y, z], []⟩ = pure [(p, u), (q, v), (r, w), (s, x), (t, y), (o, z)]) : ∀ vs : List Value, vs.map er = [a, b, c, d, e', f] → bindArgs fd ⟨vs, []⟩ = pure ([p, q, r, s, t, o].zip vs) := by
  intro vs e
  obtain ⟨u, us, rfl, _, e⟩ := cons_of e
  obtain ⟨u2, us, rfl, _, e⟩ := cons_of e
  obtain ⟨u3, us, rfl, _, e⟩ := cons_of e
  obtain ⟨v, w, x, rfl, _, _⟩ := three_of e
  exact h u u2 u3 v w x
theorem bind7 {fd : FuncData} {p q r s t o n : Str} {a b c d e' f g : AV} (h : ∀ u v w x y z k, bindArgs fd ⟨[u, v, w, x, y, z, k], []⟩ = pure [(p, u), (q, v), (r, w), (s, x), (t, y), (o, z), (n, k)]) : ∀ vs : List Value, vs.map er = [a, b, c, d, e', f, g] → bindArgs fd ⟨vs, []⟩ = pure ([p, q, r, s, t, o, n].zip vs) := by
  intro vs e
  obtain ⟨u, us, rfl, _, e⟩ := cons_of e
  obtain ⟨u2, us, rfl, _, e⟩ := cons_of e
  obtain ⟨u3, us, rfl, _, e⟩ := cons_of e
  obtain ⟨u4, us, rfl, _, e⟩ := cons_of e
  obtain ⟨v, w, x, rfl, _, _⟩ := three_of e
  exact h u u2 u3 u4 v w x
theorem Up.keep {Q : Led → Prop} {l : Led} {p q : Addr × AObj} (h : Q (p :: l)) : Up Q (p :: q :: l) := ⟨p :: l, ⟨p :: l, .refl _, (List.sublist_cons_self _ _).cons_cons _⟩, h⟩
section
variable {Z : Amb} {A : Around} {l : Led} {X : Value → Shared → Prop}
theorem children_ok (P : PX Z) {t : TreeA} {i : Nat} {nd : NodeA} {Q : AV → Led → Prop} (hT : In (treeLed P t) l) (hi : t.rows[i]? = some nd) (hz : t.rows.length ≤ 100) (hc : nd.ch.length ≤ 100) (hr : Room A 4)
    (h : ∀ r, Q (.ref r) ((r, .list (inl nd.ch)) :: l)) : CD Z A (.ref (P.ma 19)) [.ref t.x, .int i] l Q X := by
  have m1 := tree_in1 hT
  have m2 := tree_in2 hT
  have m3 := tree_in3 hT
  have n1 := node_in1 hT (List.mem_of_getElem? hi)
  have n2 := node_in2 hT (List.mem_of_getElem? hi)
  have n3 := node_in3 hT (List.mem_of_getElem? hi)
  have n4 := node_in4 hT (List.mem_of_getElem? hi)
  have n5 := node_in5 hT (List.mem_of_getElem? hi)
  refine cd_fn (P.mdef 19 (by decide)).1 (m := [("self", some (.ref t.x)), ("node", some (.int i))]) (names := [("self", .local), ("node", .local), ("list", .globalImplicit)]) (ps := ["self", "node"]) (others := []) rfl rfl (fun doc pm cdv ct => bind2 fun v0 v1 => rfl) (by decide) rfl (k := 3) hr ?_
  intro env L A' hE hr'
  refine s_cons ?_
  refine s_ret ?_
  refine rc_list (by assumption) (by assumption) (by lcg_sub) ?_
  refine r_attr ?_
  refine m_own ?_
  tlg_ne
  refine met_t 2 (by decide) (by lcg_sub) (by lcg_sub) (by decide) ?_ mN2
  refine a_cons ?_
  tlg_ne
  refine a_nil ?_
  refine CD.cl (row_ok P (by lcg_src) hi hz (hr'.le (by decide)) ?_)
  first | refine att_tree (by lcg_sub) (by lcg_sub) rfl ?_ | refine att_node (by lcg_sub) (by lcg_sub) (by first | (with_reducible exact nd_1) | (with_reducible exact nd_2) | (with_reducible exact nd_3) | (with_reducible exact nd_4) | (with_reducible exact nd_5) | (with_reducible exact nd_6) | (with_reducible exact nd_7) | (with_reducible exact nd_8) | (with_reducible exact nd_9)) (by first | rfl | assumption) ?_ | refine AttK.mk _ _ _ _ _ rfl (by lcg_sub) (by lcg_sub) (by lcg_sub) (by first | exact PX.aT _ | exact (PX.aN _ _ (by decide)).1) (by first | rfl | assumption) ?_
  refine b_list (by lcg_sub) (by simpa using Nat.le_trans hc (by decide)) fun b => ?_
  refine thr ?_
  exact Up.keep (h b)
theorem attributes_ok (P : PX Z) {t : TreeA} {i : Nat} {nd : NodeA} {Q : AV → Led → Prop} (hT : In (treeLed P t) l) (hi : t.rows[i]? = some nd) (hz : t.rows.length ≤ 100) (hc : nd.at'.length ≤ 100) (hr : Room A 4)
    (h : ∀ r, Q (.ref r) ((r, .list (inl nd.at')) :: l)) : CD Z A (.ref (P.ma 20)) [.ref t.x, .int i] l Q X := by
  have m1 := tree_in1 hT
  have m2 := tree_in2 hT
  have m3 := tree_in3 hT
  have n1 := node_in1 hT (List.mem_of_getElem? hi)
  have n2 := node_in2 hT (List.mem_of_getElem? hi)
  have n3 := node_in3 hT (List.mem_of_getElem? hi)
  have n4 := node_in4 hT (List.mem_of_getElem? hi)
  have n5 := node_in5 hT (List.mem_of_getElem? hi)
  refine cd_fn (P.mdef 20 (by decide)).1 (m := [("self", some (.ref t.x)), ("node", some (.int i))]) (names := [("self", .local), ("node", .local), ("list", .globalImplicit)]) (ps := ["self", "node"]) (others := []) rfl rfl (fun doc pm cdv ct => bind2 fun v0 v1 => rfl) (by decide) rfl (k := 3) hr ?_
  intro env L A' hE hr'
  refine s_cons ?_
  refine s_ret ?_
  refine rc_list (by assumption) (by assumption) (by lcg_sub) ?_
  refine r_attr ?_
  refine m_own ?_
  tlg_ne
  refine met_t 2 (by decide) (by lcg_sub) (by lcg_sub) (by decide) ?_ mN2
  refine a_cons ?_
  tlg_ne
  refine a_nil ?_
  refine CD.cl (row_ok P (by lcg_src) hi hz (hr'.le (by decide)) ?_)
  first | refine att_tree (by lcg_sub) (by lcg_sub) rfl ?_ | refine att_node (by lcg_sub) (by lcg_sub) (by first | (with_reducible exact nd_1) | (with_reducible exact nd_2) | (with_reducible exact nd_3) | (with_reducible exact nd_4) | (with_reducible exact nd_5) | (with_reducible exact nd_6) | (with_reducible exact nd_7) | (with_reducible exact nd_8) | (with_reducible exact nd_9)) (by first | rfl | assumption) ?_ | refine AttK.mk _ _ _ _ _ rfl (by lcg_sub) (by lcg_sub) (by lcg_sub) (by first | exact PX.aT _ | exact (PX.aN _ _ (by decide)).1) (by first | rfl | assumption) ?_
  refine b_list (by lcg_sub) (by simpa using Nat.le_trans hc (by decide)) fun b => ?_
  refine thr ?_
  exact Up.keep (h b)
theorem namespaces_ok (P : PX Z) {t : TreeA} {i : Nat} {nd : NodeA} {Q : AV → Led → Prop} (hT : In (treeLed P t) l) (hi : t.rows[i]? = some nd) (hz : t.rows.length ≤ 100) (hc : nd.ns.length ≤ 100) (hr : Room A 4)
    (h : ∀ r, Q (.ref r) ((r, .list (inl nd.ns)) :: l)) : CD Z A (.ref (P.ma 21)) [.ref t.x, .int i] l Q X := by
  have m1 := tree_in1 hT
  have m2 := tree_in2 hT
  have m3 := tree_in3 hT
  have n1 := node_in1 hT (List.mem_of_getElem? hi)
  have n2 := node_in2 hT (List.mem_of_getElem? hi)
  have n3 := node_in3 hT (List.mem_of_getElem? hi)
  have n4 := node_in4 hT (List.mem_of_getElem? hi)
  have n5 := node_in5 hT (List.mem_of_getElem? hi)
  refine cd_fn (P.mdef 21 (by decide)).1 (m := [("self", some (.ref t.x)), ("node", some (.int i))]) (names := [("self", .local), ("node", .local), ("list", .globalImplicit)]) (ps := ["self", "node"]) (others := []) rfl rfl (fun doc pm cdv ct => bind2 fun v0 v1 => rfl) (by decide) rfl (k := 3) hr ?_
  intro env L A' hE hr'
  refine s_cons ?_
  refine s_ret ?_
  refine rc_list (by assumption) (by assumption) (by lcg_sub) ?_
  refine r_attr ?_
  refine m_own ?_
  tlg_ne
  refine met_t 2 (by decide) (by lcg_sub) (by lcg_sub) (by decide) ?_ mN2
  refine a_cons ?_
  tlg_ne
  refine a_nil ?_
  refine CD.cl (row_ok P (by lcg_src) hi hz (hr'.le (by decide)) ?_)
  first | refine att_tree (by lcg_sub) (by lcg_sub) rfl ?_ | refine att_node (by lcg_sub) (by lcg_sub) (by first | (with_reducible exact nd_1) | (with_reducible exact nd_2) | (with_reducible exact nd_3) | (with_reducible exact nd_4) | (with_reducible exact nd_5) | (with_reducible exact nd_6) | (with_reducible exact nd_7) | (with_reducible exact nd_8) | (with_reducible exact nd_9)) (by first | rfl | assumption) ?_ | refine AttK.mk _ _ _ _ _ rfl (by lcg_sub) (by lcg_sub) (by lcg_sub) (by first | exact PX.aT _ | exact (PX.aN _ _ (by decide)).1) (by first | rfl | assumption) ?_
  refine b_list (by lcg_sub) (by simpa using Nat.le_trans hc (by decide)) fun b => ?_
  refine thr ?_
  exact Up.keep (h b)
end
noncomputable def splitL {α : Type} : List Str → List α → List Bool → List (Str × α)
  | x :: ps, a :: as, k :: ks => if k then splitL ps as ks else (x, a) :: splitL ps as ks
  | _, _, _ => []
noncomputable def splitC {α : Type} : List Str → List α → List Bool → List (Str × α)
  | x :: ps, a :: as, k :: ks => if k then (x, a) :: splitC ps as ks else splitC ps as ks
  | _, _, _ => []
theorem splitL_none {α : Type} : ∀ {ps : List Str} {as : List α} {ks : List Bool} {y : Str}, y ∉ ps → (splitL ps as ks).lookup y = none
  | [], _, _, _, _ => by simp [splitL]
  | _ :: _, [], _, _, _ => by simp [splitL]
  | _ :: _, _ :: _, [], _, _ => by simp [splitL]
  | x :: ps, a :: as, k :: ks, y, h => by
    simp only [List.mem_cons, not_or] at h
    unfold splitL
    cases k with
    | true => simpa using splitL_none h.2
    | false =>
      simp only [Bool.false_eq_true, if_false, List.lookup_cons, beq_false_of_ne h.1]
      exact splitL_none h.2
theorem splitC_none {α : Type} : ∀ {ps : List Str} {as : List α} {ks : List Bool} {y : Str}, y ∉ ps → (splitC ps as ks).lookup y = none
  | [], _, _, _, _ => by simp [splitC]
  | _ :: _, [], _, _, _ => by simp [splitC]
  | _ :: _, _ :: _, [], _, _ => by simp [splitC]
  | x :: ps, a :: as, k :: ks, y, h => by
    simp only [List.mem_cons, not_or] at h
    unfold splitC
    cases k with
    | false => simpa using splitC_none h.2
    | true =>
      simp only [if_true, List.lookup_cons, beq_false_of_ne h.1]
      exact splitC_none h.2
theorem bindL_eq {kindOf : Str → Option NameKind} : ∀ {ps : List Str} {vs : List Value} {ks : List Bool} (m : Str → Option Value), ps.Nodup → (∀ p ∈ ps.zip ks, kindOf p.1 = some (if p.2 then .cell else .local)) → ps.length = ks.length →
    ∀ y, bindL kindOf (ps.zip vs) m y = ((splitL ps vs ks).lookup y).or (m y)
  | [], _, _, m, _, _, _, y => by simp [bindL, splitL]
  | _ :: _, [], _, m, _, _, _, y => by simp [bindL, splitL]
  | _ :: _, _ :: _, [], m, _, _, h, y => by simp at h
  | x :: ps, v :: vs, k :: ks, m, hn, hk, hl, y => by
    simp only [List.nodup_cons] at hn
    have hx := hk (x, k) (.head _)
    have ih := fun m => bindL_eq (kindOf := kindOf) (ps := ps) (vs := vs) (ks := ks) m hn.2 (fun p hp => hk p (.tail _ hp)) (by simpa using hl) y
    rw [List.zip_cons_cons, bindL, ih]
    cases k with
    | true =>
      rw [if_neg (by rw [hx]; simp)]
      rfl
    | false =>
      rw [if_pos (by rw [hx]; simp)]
      show _ = (((x, v) :: splitL ps vs ks).lookup y).or (m y)
      simp only [List.lookup_cons]
      by_cases e : y = x
      · subst e
        rw [splitL_none hn.1]
        simp
      · have e2 : (y == x) = false := beq_false_of_ne e
        simp [e, e2]
theorem bindC_eq {kindOf : Str → Option NameKind} : ∀ {ps : List Str} {vs : List Value} {ks : List Bool} (m : Str → Option Value), ps.Nodup → (∀ p ∈ ps.zip ks, kindOf p.1 = some (if p.2 then .cell else .local)) → ps.length = ks.length →
    ∀ y, bindC kindOf (ps.zip vs) m y = ((splitC ps vs ks).lookup y).or (m y)
  | [], _, _, m, _, _, _, y => by simp [bindC, splitC]
  | _ :: _, [], _, m, _, _, _, y => by simp [bindC, splitC]
  | _ :: _, _ :: _, [], m, _, _, h, y => by simp at h
  | x :: ps, v :: vs, k :: ks, m, hn, hk, hl, y => by
    simp only [List.nodup_cons] at hn
    have hx := hk (x, k) (.head _)
    have ih := fun m => bindC_eq (kindOf := kindOf) (ps := ps) (vs := vs) (ks := ks) m hn.2 (fun p hp => hk p (.tail _ hp)) (by simpa using hl) y
    rw [List.zip_cons_cons, bindC, ih]
    cases k with
    | false =>
      rw [if_pos (by rw [hx]; simp)]
      rfl
    | true =>
      rw [if_neg (by rw [hx]; simp)]
      show _ = (((x, v) :: splitC ps vs ks).lookup y).or (m y)
      simp only [List.lookup_cons]
      by_cases e : y = x
      · subst e
        rw [splitC_none hn.1]
        simp
      · have e2 : (y == x) = false := beq_false_of_ne e
        simp [e, e2]
theorem lookup_er {α : Type} (xs : List (Str × Value)) (y : Str) : (xs.lookup y).map er = (xs.map fun p => (p.1, er p.2)).lookup y := by
  induction xs with
  | nil => rfl
  | cons p r ih =>
    obtain ⟨x, v⟩ := p
    simp only [List.map_cons, List.lookup_cons]
    cases y == x <;> simp [ih]
theorem splitL_er : ∀ {ps : List Str} {vs : List Value} {ks : List Bool}, (splitL ps vs ks).map (fun p => (p.1, er p.2)) = splitL ps (vs.map er) ks
  | [], _, _ => by simp [splitL]
  | _ :: _, [], _ => by simp [splitL]
  | _ :: _, _ :: _, [] => by simp [splitL]
  | x :: ps, v :: vs, k :: ks => by
    have ih := splitL_er (ps := ps) (vs := vs) (ks := ks)
    cases k <;> simp [splitL, ih]
theorem splitC_er : ∀ {ps : List Str} {vs : List Value} {ks : List Bool}, (splitC ps vs ks).map (fun p => (p.1, er p.2)) = splitC ps (vs.map er) ks
  | [], _, _ => by simp [splitC]
  | _ :: _, [], _ => by simp [splitC]
  | _ :: _, _ :: _, [] => by simp [splitC]
  | x :: ps, v :: vs, k :: ks => by
    have ih := splitC_er (ps := ps) (vs := vs) (ks := ks)
    cases k <;> simp [splitC, ih]
noncomputable def frameC (pl : List (Str × AV)) (others : List Str) : List (Str × Option AV) := pl.map (fun p => (p.1, some p.2)) ++ others.map fun y => (y, none)
theorem look_frameC (pl : List (Str × AV)) (others : List Str) (y : Str) : look (frameC pl others) y = pl.lookup y := by
  unfold look frameC
  induction pl with
  | nil =>
    induction others with
    | nil => rfl
    | cons z r ih =>
      simp only [List.map_nil, List.nil_append, List.map_cons, List.lookup_cons] at ih ⊢
      cases y == z
      · exact ih
      · rfl
  | cons p r ih =>
    obtain ⟨x, v⟩ := p
    simp only [List.map_cons, List.cons_append, List.lookup_cons]
    cases y == x
    · exact ih
    · rfl
noncomputable def cellKeys : List (Str × NameKind) → List Str → List Str
  | [], acc => acc
  | (x, k) :: r, acc => if k == .cell then cellKeys r (x :: acc) else cellKeys r acc
theorem cellsFrom_keys : ∀ (names : List (Str × NameKind)) (n : Nat) (acc : List (Str × Addr)), (cellsFrom n names acc).map (·.1) = cellKeys names (acc.map (·.1))
  | [], _, _ => rfl
  | (x, k) :: r, n, acc => by
    unfold cellsFrom cellKeys
    by_cases h : (k == NameKind.cell) = true
    · rw [if_pos h, if_pos h]; exact cellsFrom_keys r (n + 1) ((x, n) :: acc)
    · rw [if_neg h, if_neg h]; exact cellsFrom_keys r n acc
theorem cellKeys_acc : ∀ (names : List (Str × NameKind)) (acc : List Str) (x : Str), x ∈ acc → x ∈ cellKeys names acc
  | [], _, _, h => h
  | (y, k) :: r, acc, x, h => by
    unfold cellKeys
    split
    · exact cellKeys_acc r _ x (.tail _ h)
    · exact cellKeys_acc r _ x h
theorem cellKeys_mem : ∀ (names : List (Str × NameKind)) (acc : List Str) (x : Str), (x, NameKind.cell) ∈ names → x ∈ cellKeys names acc
  | [], _, _, h => by cases h
  | (y, k) :: r, acc, x, h => by
    unfold cellKeys
    rcases List.mem_cons.mp h with e | h
    · cases e
      rw [if_pos (show (NameKind.cell == NameKind.cell) = true from rfl)]
      exact cellKeys_acc r _ y (.head _)
    · split
      · exact cellKeys_mem r _ x h
      · exact cellKeys_mem r _ x h
theorem mem_of_lookup {α : Type} : ∀ {xs : List (Str × α)} {y : Str} {v : α}, xs.lookup y = some v → (y, v) ∈ xs
  | [], _, _, h => by simp at h
  | (x, u) :: r, y, v, h => by
    rw [List.lookup_cons] at h
    split at h
    · rename_i e
      cases h
      rw [eq_of_beq e]; exact .head _
    · exact .tail _ (mem_of_lookup h)
theorem isSome_of_key {α : Type} : ∀ {xs : List (Str × α)} {y : Str}, y ∈ xs.map (·.1) → (xs.lookup y).isSome = true
  | [], _, h => by cases h
  | (x, u) :: r, y, h => by
    rw [List.lookup_cons]
    by_cases e : y = x
    · subst e; simp
    · rw [beq_false_of_ne e]
      rcases List.mem_cons.mp h with h | h
      · exact absurd h e
      · exact isSome_of_key h
theorem lookup_nodup {α : Type} : ∀ {xs : List (Str × α)} {y : Str} {v : α}, (xs.map (·.1)).Nodup → (y, v) ∈ xs → xs.lookup y = some v
  | [], _, _, _, h => by cases h
  | (x, u) :: r, y, v, hn, h => by
    simp only [List.map_cons, List.nodup_cons] at hn
    rw [List.lookup_cons]
    rcases List.mem_cons.mp h with e | h
    · cases e; simp
    · have : y ≠ x := fun e => hn.1 (e ▸ List.mem_map_of_mem (f := (·.1)) h)
      rw [beq_false_of_ne this]
      exact lookup_nodup hn.2 h
theorem zip_parts {α β : Type} : ∀ (xs : List (α × β)), (xs.map (·.1)).zip (xs.map (·.2)) = xs
  | [] => rfl
  | (a, b) :: r => by simp only [List.map_cons, List.zip_cons_cons, zip_parts r]
section
variable {Z : Amb} {A : Around} {l : Led} {X : Value → Shared → Prop}
theorem Sat.news {s : Shared} (h : Sat Z l s) {h' : Heap} {tk : Nat} {new : Led} (hk : ∀ b o, s.heap.get? b = some o → h'.get? b = some o) (hn : (new.map (·.1)).Nodup) (ha : ∀ p ∈ new, s.heap.objs.size ≤ p.1 ∧ ∃ ob, h'.get? p.1 = some ob ∧ p.2.Is Z.prog Z.w ob) : Sat Z (new ++ l) { s with heap := h', toks := tk } := by
  have hz := h.size
  obtain ⟨hp, t, rfl, R⟩ := h
  obtain ⟨a0, o0, h1, h2⟩ := R.sent
  refine ⟨h', tk, rfl, fun b o e => hk b o (R.keep b o e), ?_, fun p hp => ?_, a0, o0, h1, hk _ _ h2⟩
  · rw [List.map_append, List.nodup_append]
    refine ⟨hn, R.nd, ?_⟩
    rintro a hma b hmb rfl
    obtain ⟨p, hp, e⟩ := List.mem_map.mp hma
    obtain ⟨q, hq, e2⟩ := List.mem_map.mp hmb
    obtain ⟨_, ob', h3, _⟩ := R.objs q hq
    have := (ha p hp).1
    exact absurd (Heap.lt_size h3) (Nat.not_lt.mpr (by rw [e2, ← e]; exact this))
  · rcases List.mem_append.mp hp with hp | hp
    · obtain ⟨h3, ob, h4, h5⟩ := ha p hp
      exact ⟨Nat.le_trans hz h3, ob, h4, h5⟩
    · obtain ⟨h3, ob, h4, h5⟩ := R.objs p hp
      exact ⟨h3, ob, hk _ _ h4, h5⟩
theorem cd_fnC {a : Addr} {name qual : Str} {st : Stmt} {ps others : List Str} {ks : List Bool} {args : List AV} {m : List (Str × Option AV)} {names : List (Str × NameKind)} {cx : List (Str × Option AV)} {cxk : List Str} {k : Nat} {Q : AV → Led → Prop}
    (hf : DefAt Z a name qual st) (hN : (fdS st).names = names) (hcx : cx.map (·.1) = cxk) (hm : frameC (splitL ps args ks) others = m)
    (hbind : ∀ doc pm cdv ct (vs : List Value), vs.map er = args → bindArgs (fnOf name qual (fdP st) (fdB st) (fdS st) .none .none doc pm none cdv ct) ⟨vs, []⟩ = pure (ps.zip vs))
    (hck : (((ps.zip ks).all fun p => decide (names.lookup p.1 = some (if p.2 then .cell else .local))) && decide ps.Nodup && decide (ps.length = ks.length) && decide (names.map (·.1)).Nodup && decide ((fdS st).kind = .function) && !(fdS st).isCoroutine && !(fdS st).isGenerator && decide (cellKeys names [] = cxk) && decide cxk.Nodup) = true)
    (hmn : (m.map (·.1)).Nodup) (hcv : ∀ p ∈ cx, (splitC ps args ks).lookup p.1 = p.2) (hlen : args.length = ps.length) (hr : Room A (k + 1))
    (h : ∀ env L A' (cs : List Addr), cs.length = cx.length → EnvIs env L names ((cx.map (·.1)).zip cs) → Room A' k → SV Z A' env (fdB st) ((L, .frame m) :: ((cs.zip cx).map (fun p => (p.1, AObj.cell p.2.2)) ++ l)) (fun fl => Up (Q (retOf fl))) noX) : CD Z A (.ref a) args l Q X := by
  obtain ⟨oc, od, osl, doc, pm, cdv, ct, h1, h2, h3⟩ := hf
  subst hN
  subst hcx
  simp only [Bool.and_eq_true, Bool.not_eq_true', decide_eq_true_eq, List.all_eq_true] at hck
  obtain ⟨⟨⟨⟨⟨⟨⟨⟨c1, c2⟩, c3⟩, c4⟩, c5⟩, c6⟩, c7⟩, c8⟩, c9⟩ := hck
  rintro vs rfl s R hs hQ hX
  subst hm
  have hkeys : ∀ n, (cellsFrom n (fdS st).names []).map (·.1) = cx.map (·.1) := fun n => (cellsFrom_keys _ n []).trans c8
  refine codeAny_call_cells hr.room (hs.K _ _ h1) rfl (Z.T.nolimit.keeps hs.keep) (codeRec_of hs.K h2) rfl (hbind doc pm cdv ct vs rfl) rfl (fun x hx => ?_) (fun s₁ hIC => ?_) c6 c7 c5
  · have hx1 := (List.of_mem_zip hx).1
    obtain ⟨i, hi, e⟩ := List.mem_iff_getElem.mp hx1
    have hz : (ps[i], ks[i]'(c3 ▸ hi)) ∈ ps.zip ks := by
      rw [List.mem_iff_getElem]
      exact ⟨i, by rw [List.length_zip]; omega, by rw [List.getElem_zip]⟩
    have := c1 _ hz
    dsimp only at this
    rw [e] at this
    cases hki : ks[i]'(c3 ▸ hi) with
    | false => rw [hki] at this; exact .inl this
    | true =>
      rw [hki] at this
      refine .inr ⟨this, ?_⟩
      show ((cellsFrom (s.heap.objs.size + 1) (fdS st).names []).lookup x.1).isSome = true
      refine isSome_of_key ?_
      rw [hkeys, ← c8]
      exact cellKeys_mem _ _ _ (mem_of_lookup this)
  · obtain ⟨hI, hcell, hap, hab⟩ := hIC
    obtain ⟨⟨h₁, tk, rfl⟩, hns, hkp, hfr⟩ := hI
    have hkk : ∀ p ∈ ps.zip ks, (callEnvC (fnOf name qual (fdP st) (fdB st) (fdS st) .none .none doc pm none cdv ct) s.heap.objs.size a).kindOf p.1 = some (if p.2 then .cell else .local) := fun p hp => c1 p hp
    obtain ⟨cs, hcs⟩ : ∃ cs, cellsFrom (s.heap.objs.size + 1) (fdS st).names [] = cs := ⟨_, rfl⟩
    have hk1 : cs.map (·.1) = cx.map (·.1) := hcs ▸ hkeys _
    have hcs' : (callEnvC (fnOf name qual (fdP st) (fdB st) (fdS st) .none .none doc pm none cdv ct) s.heap.objs.size a).cells = cs := hcs
    have hll : cs.length = cx.length := by simpa using congrArg List.length hk1
    have hnd : (cs.map (·.1)).Nodup := by rw [hk1]; exact c9
    have hE : EnvIs (callEnvC (fnOf name qual (fdP st) (fdB st) (fdS st) .none .none doc pm none cdv ct) s.heap.objs.size a) s.heap.objs.size (fdS st).names ((cx.map (·.1)).zip (cs.map (·.2))) := by
      refine ⟨c5, rfl, rfl, rfl, fun x hx => lookup_of_mem c4 hx, fun x hx => ?_⟩
      rw [← hk1, zip_parts] at hx
      rw [hcs']
      exact lookup_nodup hnd hx
    rw [hcs'] at hcell hap hab
    have hS : Sat Z ((s.heap.objs.size, .frame (frameC (splitL ps (vs.map er) ks) others)) :: (((cs.map (·.2)).zip cx).map (fun p => (p.1, AObj.cell p.2.2)) ++ l)) { s with heap := h₁, toks := tk } := by
      have hz1 : (((cs.map (·.2)).zip cx).map (fun p => (p.1, AObj.cell p.2.2))).map (·.1) = cs.map (·.2) := by
        rw [List.map_map]
        show ((cs.map (·.2)).zip cx).map Prod.fst = _
        exact List.map_fst_zip (by simp [hll])
      refine hs.news (new := (s.heap.objs.size, .frame (frameC (splitL ps (vs.map er) ks) others)) :: ((cs.map (·.2)).zip cx).map (fun p => (p.1, AObj.cell p.2.2))) hkp ?_ ?_
      · rw [List.map_cons, hz1, List.nodup_cons]
        refine ⟨fun hm => ?_, ?_⟩
        · obtain ⟨p, hp, e⟩ := List.mem_map.mp hm
          exact absurd (hab p.1 p.2 hp) (Nat.not_lt.mpr (Nat.le_of_eq e))
        · exact List.pairwise_map.mpr hap
      · intro p hp
        rcases List.mem_cons.mp hp with rfl | hp
        · obtain ⟨ob, es, ep, ho, hd, hsk, hl⟩ := hns
          refine ⟨Nat.le_refl _, ob, ho, hmn, es, ep, hd, hsk, fun y => ?_⟩
          rw [hl, bindL_eq _ c2 hkk c3, look_frameC, ← splitL_er, ← lookup_er (α := Value)]
          simp
        · obtain ⟨q, hq, rfl⟩ := List.mem_map.mp hp
          obtain ⟨i, hi, e⟩ := List.mem_iff_getElem.mp hq
          rw [List.length_zip, List.length_map] at hi
          have hi1 : i < cs.length := by omega
          have hi2 : i < cx.length := by omega
          rw [List.getElem_zip, List.getElem_map] at e
          subst e
          have hkey : cs[i].1 = cx[i].1 := by
            have h1 : (cs.map (·.1))[i]? = (cx.map (·.1))[i]? := by rw [hk1]
            rw [List.getElem?_map, List.getElem?_map, List.getElem?_eq_getElem hi1, List.getElem?_eq_getElem hi2] at h1
            exact Option.some.inj h1
          have hmem : (cs[i].1, cs[i].2) ∈ cs := List.getElem_mem hi1
          obtain ⟨ob, ho, hd⟩ := hcell _ _ (lookup_nodup hnd hmem)
          refine ⟨Nat.le_of_lt (hab _ _ hmem), ob, ho, _, hd, ?_⟩
          rw [bindC_eq _ c2 hkk c3, hkey, ← hcv _ (List.getElem_mem hi2), ← splitC_er, ← lookup_er (α := Value)]
          simp
    refine wpAny_mono (h _ _ _ (cs.map (·.2)) (by rw [List.length_map]; exact hll) hE hr.deeper _ (fun fl s' => R (.ok (.ret (match fl with | .ret v => v | _ => .none))) s') hS ?_) (fun fl s' x => x) (fun _ _ x => x.elim)
    rintro fl s' l' hs' ⟨l2, hsb, hq⟩
    refine hQ _ _ l2 (hs'.subperm hsb) ?_
    cases fl <;> exact hq
end
noncomputable def clo (look : Str → Option Addr) : List (Str × NameKind) → List (Str × Addr) → List (Str × Addr)
  | [], acc => acc
  | (x, k) :: r, acc => if k == .free then clo look r ((x, (look x).getD 0) :: acc) else clo look r acc
theorem clo_for {env : Env} : ∀ (names : List (Str × NameKind)) (acc : List (Str × Addr)), (∀ x ∈ names, x.2 = .free → (env.cells.lookup x.1).isSome = true) →
    (forIn names acc fun (x : Str × NameKind) (cs : List (Str × Addr)) => (match x with | (name, kind) => if (kind == NameKind.free) = true then do let a ← cellOf env name; pure (ForInStep.yield ((name, a) :: cs)) else pure (ForInStep.yield cs) : Sem (ForInStep (List (Str × Addr))))) = pure (clo (fun y => env.cells.lookup y) names acc)
  | [], acc, _ => by simp [clo]
  | (x, k) :: r, acc, h => by
    have ih := fun acc => clo_for (env := env) r acc fun y hy => h y (.tail _ hy)
    rw [List.forIn_cons]
    by_cases hk : (k == NameKind.free) = true
    · have hs := h (x, k) (.head _) (eq_of_beq hk)
      obtain ⟨a, ha⟩ := Option.isSome_iff_exists.mp hs
      dsimp only at ha ⊢
      rw [if_pos hk]
      unfold cellOf clo
      rw [ha, if_pos hk]
      simp only [pure_bind]
      exact ih _
    · dsimp only
      rw [if_neg hk]
      simp only [pure_bind]
      unfold clo
      rw [if_neg hk]
      exact ih _
theorem clos {scope : Scope} {env : Env} (h : ∀ x ∈ scope.names, x.2 = .free → (env.cells.lookup x.1).isSome = true) : closureFor scope env = pure (clo (fun y => env.cells.lookup y) scope.names []) := by
  unfold closureFor
  have := clo_for scope.names [] h
  simp only [this]
  simp
theorem clo_all {look : Str → Option Addr} : ∀ (names : List (Str × NameKind)) (acc : List (Str × Addr)), (∀ p ∈ acc, p.2 = (look p.1).getD 0) → ∀ p ∈ clo look names acc, p.2 = (look p.1).getD 0
  | [], acc, h => h
  | (x, k) :: r, acc, h => by
    unfold clo
    split
    · refine clo_all r _ fun p hp => ?_
      rcases List.mem_cons.mp hp with rfl | hp
      · rfl
      · exact h p hp
    · exact clo_all r _ h
theorem clo_acc {look : Str → Option Addr} : ∀ (names : List (Str × NameKind)) (acc : List (Str × Addr)) (p : Str × Addr), p ∈ acc → p ∈ clo look names acc
  | [], _, _, h => h
  | (x, k) :: r, acc, p, h => by
    unfold clo
    split
    · exact clo_acc r _ p (.tail _ h)
    · exact clo_acc r _ p h
theorem clo_mem {look : Str → Option Addr} : ∀ (names : List (Str × NameKind)) (acc : List (Str × Addr)) (x : Str), (x, NameKind.free) ∈ names → (x, (look x).getD 0) ∈ clo look names acc
  | [], _, _, h => by cases h
  | (y, k) :: r, acc, x, h => by
    unfold clo
    rcases List.mem_cons.mp h with e | h
    · cases e
      rw [if_pos (show (NameKind.free == NameKind.free) = true from rfl)]
      exact clo_acc r _ _ (.head _)
    · split
      · exact clo_mem r _ x h
      · exact clo_mem r _ x h
theorem clo_cons {look : Str → Option Addr} {names : List (Str × NameKind)} : ∀ x ∈ clo look names [], (clo look names []).lookup x.1 = some x.2 := by
  have hall := clo_all (look := look) names [] (fun p hp => by cases hp)
  intro x hx
  rw [hall x hx]
  have : ∀ (xs : List (Str × Addr)), (∀ p ∈ xs, p.2 = (look p.1).getD 0) → x.1 ∈ xs.map (·.1) → xs.lookup x.1 = some ((look x.1).getD 0) := by
    intro xs
    induction xs with
    | nil => intro _ h; cases h
    | cons p r ih =>
      intro h hm
      obtain ⟨z, v⟩ := p
      rw [List.lookup_cons]
      by_cases e : x.1 = z
      · have := h (z, v) (.head _)
        dsimp only at this
        rw [e]
        simp [this]
      · rw [beq_false_of_ne e]
        refine ih (fun q hq => h q (.tail _ hq)) ?_
        rcases List.mem_cons.mp hm with h1 | h1
        · exact absurd h1 e
        · exact h1
  exact this _ hall (List.mem_map_of_mem hx)
noncomputable def unfree (names : List (Str × NameKind)) : List (Str × NameKind) := names.map fun p => (p.1, if p.2 == .free then .cell else p.2)
section
variable {Z : Amb} {A : Around} {env : Env} {l l' : Led} {X : Value → Shared → Prop} {L : Addr} {names : List (Str × NameKind)} {cells : List (Str × Addr)}
theorem relabel_eq {scope : Scope} (hE : EnvIs env L names cells) (h : ∀ y ∈ scope.names, y.2 = .free → (y.1, NameKind.cell) ∈ names) : (relabel scope env).names = unfree scope.names := by
  unfold relabel unfree
  apply List.map_congr_left
  rintro ⟨x, k⟩ hx
  dsimp only
  by_cases hk : k = .free
  · subst hk
    have := hE.knd _ (h _ hx rfl)
    dsimp only at this
    simp [hE.kind, this]
  · simp [hk]
noncomputable def compOk (scope : Scope) (names names' : List (Str × NameKind)) (ck ck' : List Str) (m : List (Str × Option AV)) : Bool :=
  ((scope.names.all fun y => decide (y.2 ≠ .cell)) && decide (scope.kind = .function) && (scope.names.all fun y => y.2 != .local || decide (scope.names.lookup y.1 = some .local)) && decide (m.map (·.1)).Nodup && (m.all fun p => p.2.isNone)) &&
  (scope.names.all fun y => y.2 != .free || (decide ((y.1, NameKind.cell) ∈ names) && decide (y.1 ∈ ck))) && (ck'.all fun x => decide ((x, NameKind.free) ∈ scope.names)) && (names'.all fun y => decide ((unfree scope.names).lookup y.1 = some y.2))
theorem comp_parts {scope : Scope} {names' : List (Str × NameKind)} {ck ck' : List Str} {m : List (Str × Option AV)} {cells' : List (Str × Addr)} (hE : EnvIs env L names cells) (hck : cells.map (·.1) = ck) (hck' : cells'.map (·.1) = ck') (hsub : ∀ x ∈ cells', x ∈ cells) (hok : compOk scope names names' ck ck' m = true) :
    closureFor scope env = pure (clo (fun y => env.cells.lookup y) scope.names []) ∧ (∀ y ∈ names', (relabel scope env).names.lookup y.1 = some y.2) ∧ (∀ x ∈ cells', x ∈ clo (fun y => env.cells.lookup y) scope.names []) ∧
    ((scope.names.all fun y => decide (y.2 ≠ .cell)) && decide (scope.kind = .function) && (scope.names.all fun y => y.2 != .local || decide (scope.names.lookup y.1 = some .local)) && decide (m.map (·.1)).Nodup && (m.all fun p => p.2.isNone)) = true := by
  unfold compOk at hok
  rw [Bool.and_eq_true, Bool.and_eq_true, Bool.and_eq_true] at hok
  obtain ⟨⟨⟨c1, c2⟩, c3⟩, c4⟩ := hok
  simp only [List.all_eq_true, Bool.or_eq_true, bne_iff_ne, ne_eq, Bool.and_eq_true, decide_eq_true_eq] at c2 c3 c4
  refine ⟨clos fun x hx e => ?_, fun y hy => ?_, fun x hx => ?_, c1⟩
  · have := ((c2 x hx).resolve_left (fun q => q e)).2
    rw [← hck] at this
    obtain ⟨p, hp, e2⟩ := List.mem_map.mp this
    have := hE.cls p hp
    rw [e2] at this
    rw [this]; rfl
  · rw [relabel_eq hE fun z hz e => ((c2 z hz).resolve_left (fun q => q e)).1]
    exact c4 y hy
  · have h1 := hE.cls x (hsub x hx)
    have h2 := clo_mem (look := fun y => env.cells.lookup y) scope.names [] x.1 (c3 x.1 (hck' ▸ List.mem_map_of_mem hx))
    rw [h1] at h2
    exact h2
theorem EnvIs.less {cells' : List (Str × Addr)} (hE : EnvIs env L names cells) (h : ∀ x ∈ cells', x ∈ cells) : EnvIs env L names cells' := ⟨hE.kind, hE.loc, hE.glob, hE.blt, hE.knd, fun x hx => hE.cls x (h x hx)⟩
theorem r_compF {elt iter : Expr} {x : Str} {px : Pos} {ifs : List Expr} {scope : Scope} {pos : Pos} {m : List (Str × Option AV)} {names' : List (Str × NameKind)} {cells' : List (Str × Addr)} {ck ck' : List Str} {Q : AV → Led → Prop}
    (hE : EnvIs env L names cells) (hck : cells.map (·.1) = ck) (hck' : cells'.map (·.1) = ck') (hsub : ∀ x ∈ cells', x ∈ cells) (hok : compOk scope names names' ck ck' m = true)
    (h : EV Z A env iter l (fun v l1 => ITER Z A v l1 (fun it l2 => (∀ l3, l2.Sublist l3 → SELF Z A it l3) ∧
      ∀ C D cenv, EnvIs cenv C names' cells' → CompK Z A cenv x ifs elt it D (CFin C D Q) ((C, .frame m) :: (D, .list []) :: l2)) X) X)
    (hfs : ∀ x, foldedSetIterable iter env x = pure x := by intro _; rfl) :
    EV Z A env (.ListComp elt [⟨.Name x px, iter, ifs, 0⟩] scope pos) l Q X := by
  obtain ⟨h1, h2, h3, h4⟩ := comp_parts hE hck hck' hsub hok
  refine r_comp hE h1 h2 clo_cons h4 (TR.mono h fun v l1 hv => fun u e => TR.mono (hv u e) ?_) hfs
  rintro w l2 ⟨it, e, hself, hh⟩
  exact ⟨it, e, hself, fun C D cenv hEc => hh C D cenv (hEc.less h3)⟩
theorem s_compF {elt iter : Expr} {x y : Str} {px py : Pos} {ifs : List Expr} {scope : Scope} {pos spos : Pos} {m : List (Str × Option AV)} {names' : List (Str × NameKind)} {cells' : List (Str × Addr)} {ck ck' : List Str} {Q : AFlow → Led → Prop}
    (hE : EnvIs env L names cells) (hsw : swapsWith (.ListComp elt [⟨.Name x px, iter, ifs, 0⟩] scope pos) (some (.Name y py)) spos.line env = pure true) (hck : cells.map (·.1) = ck) (hck' : cells'.map (·.1) = ck') (hsub : ∀ x ∈ cells', x ∈ cells) (hok : compOk scope names names' ck ck' m = true)
    (h : EV Z A env iter l (fun v l1 => ITER Z A v l1 (fun it l2 => (∀ l3, l2.Sublist l3 → SELF Z A it l3) ∧
      ∀ C D cenv, EnvIs cenv C names' cells' → CompK Z A cenv x ifs elt it D (fun l3 => ST Z A (storeName env y) (.ref D) l3 (CFin C D (fun _ => Q .next)) noX) ((C, .frame m) :: (D, .list []) :: l2)) X) X)
    (hfs : ∀ x, foldedSetIterable iter env x = pure x := by intro _; rfl) :
    S1 Z A env (.Assign [.Name y py] (.ListComp elt [⟨.Name x px, iter, ifs, 0⟩] scope pos) spos) l Q X := by
  obtain ⟨h1, h2, h3, h4⟩ := comp_parts hE hck hck' hsub hok
  refine s_comp hE hsw h1 h2 clo_cons h4 (TR.mono h fun v l1 hv => fun u e => TR.mono (hv u e) ?_) hfs
  rintro w l2 ⟨it, e, hself, hh⟩
  exact ⟨it, e, hself, fun C D cenv hEc => hh C D cenv (hEc.less h3)⟩
theorem swaps_comp {elt : Expr} {gens : List Comprehension} {scope : Scope} {pos py : Pos} {y : Str} {n : Nat} (hE : EnvIs env L names cells) (hy : (y, NameKind.local) ∈ names) (hl : (py.line == pos.line) = true) (hs : (scope.names.any fun x => x.1 == y && (x.2 == .local || x.2 == .cell)) = false) :
    swapsWith (.ListComp elt gens scope pos) (some (.Name y py)) n env = pure true := by
  unfold swapsWith
  simp only [hE.block, hE.knd _ hy, show (Expr.ListComp elt gens scope pos).pos = pos from rfl, show (Expr.Name y py).pos = py from rfl, eq_of_beq hl, hs]
  simp
end
noncomputable def ltI : List Int → List Int → Bool
  | [], [] => false
  | [], _ :: _ => true
  | _ :: _, [] => false
  | x :: xs, y :: ys => if x = y then ltI xs ys else decide (x < y)
open AutoSeq1 (wpAny_loadPart')
open MeetsSeq MeetsSeq3
theorem lt_loop (l b : Addr) (items items2 : Array Value) (n n2 : Nat) (ns ms : List Int) (h1 : items.toList.map er = il ns) (h2 : items2.toList.map er = il ms) (k : Nat) :
    ∀ i : Nat, items.size + 1 - i = k → Meets (Builtin.«list.__eq__.loop» ⟨[.ref l, .ref b, rawInt i, rawInt 0], []⟩)
      (fun _ R s => s.heap.get? l = some { cls := .type "list", dict := none, data := .seq items n, slots := #[] } ∧ s.heap.get? b = some { cls := .type "list", dict := none, data := .seq items2 n2, slots := #[] } ∧
        i ≤ items.size ∧ i ≤ items2.size ∧ R (.ok (.ret (.bool (ltI (ns.drop i) (ms.drop i))))) s) := by
  have z1 : items.size = ns.length := by simpa using congrArg List.length h1
  have z2 : items2.size = ms.length := by simpa using congrArg List.length h2
  have g1 : ∀ j (hj : j < items.size), ∃ t, items[j] = .int (ns[j]'(z1 ▸ hj)) t := by
    intro j hj
    have : (items.toList.map er)[j]? = (il ns)[j]? := by rw [h1]
    rw [List.getElem?_map, List.getElem?_map, List.getElem?_eq_getElem (by simpa using hj), List.getElem?_eq_getElem (z1 ▸ hj)] at this
    simp only [Option.map_some, Option.some.injEq, Array.getElem_toList] at this
    exact er_int this
  have g2 : ∀ j (hj : j < items2.size), ∃ t, items2[j] = .int (ms[j]'(z2 ▸ hj)) t := by
    intro j hj
    have : (items2.toList.map er)[j]? = (il ms)[j]? := by rw [h2]
    rw [List.getElem?_map, List.getElem?_map, List.getElem?_eq_getElem (by simpa using hj), List.getElem?_eq_getElem (z2 ▸ hj)] at this
    simp only [Option.map_some, Option.some.injEq, Array.getElem_toList] at this
    exact er_int this
  induction k with
  | zero =>
    intro i hk prog w A R s h
    obtain ⟨_, _, h3, _⟩ := h
    omega
  | succ k ih =>
    intro i hk prog w A R s h
    obtain ⟨hp, g, d, tk, os⟩ := s
    obtain ⟨hl, hb, hi, hi2, h⟩ := h
    by_cases hlt : i < items.size
    · have e1 : items[((i : Nat) : Int).toNat]? = some items[i] := by simp [hlt]
      have d1 : ns.drop i = ns[i] :: ns.drop (i + 1) := List.drop_eq_getElem_cons (z1 ▸ hlt)
      by_cases hlt2 : i < items2.size
      · have e2 : items2[((i : Nat) : Int).toNat]? = some items2[i] := by simp [hlt2]
        have d2 : ms.drop i = ms[i] :: ms.drop (i + 1) := List.drop_eq_getElem_cons (z2 ▸ hlt2)
        obtain ⟨t1, f1⟩ := g1 i hlt
        obtain ⟨t2, f2⟩ := g2 i hlt2
        wp_walk using wpAny_loadPart' hl, wpAny_loadPart' hb
        have hc : ((i : Int) + 1) = ((i + 1 : Nat) : Int) := by push_cast; rfl
        rw [d1, d2, ltI] at h
        rw [e1, e2, f1, f2]
        refine wpAny_bind (wpAny_eqBool_int ?_)
        by_cases he : ns[i] = ms[i]
        · rw [if_pos he] at h
          rw [show (ns[i] == ms[i]) = true from beq_iff_eq.mpr he]
          wp_walk
          rw [hc]
          exact ⟨plainId_quiet plain_eq_loop _, codeAny_builtin entry_eq_loop (by
            rw [Around.under_plainId plain_eq_loop _]
            exact ih (i + 1) (by omega) prog w A R _ ⟨hl, hb, by omega, by omega, h⟩)⟩
        · rw [if_neg he] at h
          rw [show (ns[i] == ms[i]) = false from beq_false_of_ne he]
          wp_walk using wpAny_loadPart' hl, wpAny_loadPart' hb
          rw [e1, e2, f1, f2]
          show wpAny _ _ (compareOp .Lt (.int ns[i] t1) (.int ms[i] t2) >>= _) _ _ _
          exact wpAny_bind (PyProof.Rows.lt_int (wpAny_pure h))
      · have e2 : items2[((i : Nat) : Int).toNat]? = none := by simp; omega
        have d2 : ms.drop i = [] := List.drop_of_length_le (by omega)
        wp_walk using wpAny_loadPart' hl, wpAny_loadPart' hb
        rw [d1, d2, ltI] at h
        rw [e1, e2]
        wp_walk using wpAny_loadPart' hl, wpAny_loadPart' hb
        show R (.ok (.ret (.bool (decide (items.size < items2.size))))) _
        rw [decide_eq_false (by omega)]
        exact h
    · have e1 : items[((i : Nat) : Int).toNat]? = none := by simp; omega
      have d1 : ns.drop i = [] := List.drop_of_length_le (by omega)
      wp_walk using wpAny_loadPart' hl, wpAny_loadPart' hb
      rw [d1] at h
      by_cases hlt2 : i < items2.size
      · have e2 : items2[((i : Nat) : Int).toNat]? = some items2[i] := by simp [hlt2]
        have d2 : ms.drop i = ms[i] :: ms.drop (i + 1) := List.drop_eq_getElem_cons (z2 ▸ hlt2)
        rw [d2, ltI] at h
        rw [e1, e2]
        wp_walk using wpAny_loadPart' hl, wpAny_loadPart' hb
        show R (.ok (.ret (.bool (decide (items.size < items2.size))))) _
        rw [decide_eq_true (by omega)]
        exact h
      · have e2 : items2[((i : Nat) : Int).toNat]? = none := by simp; omega
        have d2 : ms.drop i = [] := List.drop_of_length_le (by omega)
        rw [d2, ltI] at h
        rw [e1, e2]
        have hsz : items.size = items2.size := by omega
        clear ih g1 g2 d1 d2 e1 e2 z1 z2 h1 h2 hi hi2 hlt hlt2 hk
        refine wpAny_bind (wpAny_listItems hl rfl (wpAny_bind (wpAny_listItems hb rfl (wpAny_pure ?_))))
        show R (.ok (.ret (.bool (decide (items.size < items2.size))))) _
        rw [decide_eq_false (by omega)]
        exact h
theorem gt_loop (l b : Addr) (items items2 : Array Value) (n n2 : Nat) (ns ms : List Int) (h1 : items.toList.map er = il ns) (h2 : items2.toList.map er = il ms) (k : Nat) :
    ∀ i : Nat, items.size + 1 - i = k → Meets (Builtin.«list.__eq__.loop» ⟨[.ref l, .ref b, rawInt i, rawInt 4], []⟩)
      (fun _ R s => s.heap.get? l = some { cls := .type "list", dict := none, data := .seq items n, slots := #[] } ∧ s.heap.get? b = some { cls := .type "list", dict := none, data := .seq items2 n2, slots := #[] } ∧
        i ≤ items.size ∧ i ≤ items2.size ∧ R (.ok (.ret (.bool (ltI (ms.drop i) (ns.drop i))))) s) := by
  have z1 : items.size = ns.length := by simpa using congrArg List.length h1
  have z2 : items2.size = ms.length := by simpa using congrArg List.length h2
  have g1 : ∀ j (hj : j < items.size), ∃ t, items[j] = .int (ns[j]'(z1 ▸ hj)) t := by
    intro j hj
    have : (items.toList.map er)[j]? = (il ns)[j]? := by rw [h1]
    rw [List.getElem?_map, List.getElem?_map, List.getElem?_eq_getElem (by simpa using hj), List.getElem?_eq_getElem (z1 ▸ hj)] at this
    simp only [Option.map_some, Option.some.injEq, Array.getElem_toList] at this
    exact er_int this
  have g2 : ∀ j (hj : j < items2.size), ∃ t, items2[j] = .int (ms[j]'(z2 ▸ hj)) t := by
    intro j hj
    have : (items2.toList.map er)[j]? = (il ms)[j]? := by rw [h2]
    rw [List.getElem?_map, List.getElem?_map, List.getElem?_eq_getElem (by simpa using hj), List.getElem?_eq_getElem (z2 ▸ hj)] at this
    simp only [Option.map_some, Option.some.injEq, Array.getElem_toList] at this
    exact er_int this
  induction k with
  | zero =>
    intro i hk prog w A R s h
    obtain ⟨_, _, h3, _⟩ := h
    omega
  | succ k ih =>
    intro i hk prog w A R s h
    obtain ⟨hp, g, d, tk, os⟩ := s
    obtain ⟨hl, hb, hi, hi2, h⟩ := h
    by_cases hlt : i < items.size
    · have e1 : items[((i : Nat) : Int).toNat]? = some items[i] := by simp [hlt]
      have d1 : ns.drop i = ns[i] :: ns.drop (i + 1) := List.drop_eq_getElem_cons (z1 ▸ hlt)
      by_cases hlt2 : i < items2.size
      · have e2 : items2[((i : Nat) : Int).toNat]? = some items2[i] := by simp [hlt2]
        have d2 : ms.drop i = ms[i] :: ms.drop (i + 1) := List.drop_eq_getElem_cons (z2 ▸ hlt2)
        obtain ⟨t1, f1⟩ := g1 i hlt
        obtain ⟨t2, f2⟩ := g2 i hlt2
        wp_walk using wpAny_loadPart' hl, wpAny_loadPart' hb
        have hc : ((i : Int) + 1) = ((i + 1 : Nat) : Int) := by push_cast; rfl
        rw [d1, d2, ltI] at h
        rw [e1, e2, f1, f2]
        refine wpAny_bind (wpAny_eqBool_int ?_)
        by_cases he : ms[i] = ns[i]
        · rw [if_pos he] at h
          rw [show (ns[i] == ms[i]) = true from beq_iff_eq.mpr he.symm]
          wp_walk
          rw [hc]
          exact ⟨plainId_quiet plain_eq_loop _, codeAny_builtin entry_eq_loop (by
            rw [Around.under_plainId plain_eq_loop _]
            exact ih (i + 1) (by omega) prog w A R _ ⟨hl, hb, by omega, by omega, h⟩)⟩
        · rw [if_neg he] at h
          rw [show (ns[i] == ms[i]) = false from beq_false_of_ne (fun q => he q.symm)]
          wp_walk using wpAny_loadPart' hl, wpAny_loadPart' hb
          rw [e1, e2, f1, f2]
          show wpAny _ _ (compareOp .Gt (.int ns[i] t1) (.int ms[i] t2) >>= _) _ _ _
          exact wpAny_bind (PyProof.Rows.gt_int (wpAny_pure h))
      · have e2 : items2[((i : Nat) : Int).toNat]? = none := by simp; omega
        have d2 : ms.drop i = [] := List.drop_of_length_le (by omega)
        wp_walk using wpAny_loadPart' hl, wpAny_loadPart' hb
        rw [d1, d2, ltI] at h
        rw [e1, e2]
        wp_walk using wpAny_loadPart' hl, wpAny_loadPart' hb
        show R (.ok (.ret (.bool (decide (items2.size < items.size))))) _
        rw [decide_eq_true (by omega)]
        exact h
    · have e1 : items[((i : Nat) : Int).toNat]? = none := by simp; omega
      have d1 : ns.drop i = [] := List.drop_of_length_le (by omega)
      wp_walk using wpAny_loadPart' hl, wpAny_loadPart' hb
      rw [d1] at h
      by_cases hlt2 : i < items2.size
      · have e2 : items2[((i : Nat) : Int).toNat]? = some items2[i] := by simp [hlt2]
        have d2 : ms.drop i = ms[i] :: ms.drop (i + 1) := List.drop_eq_getElem_cons (z2 ▸ hlt2)
        rw [d2, ltI] at h
        rw [e1, e2]
        wp_walk using wpAny_loadPart' hl, wpAny_loadPart' hb
        show R (.ok (.ret (.bool (decide (items2.size < items.size))))) _
        rw [decide_eq_false (by omega)]
        exact h
      · have e2 : items2[((i : Nat) : Int).toNat]? = none := by simp; omega
        have d2 : ms.drop i = [] := List.drop_of_length_le (by omega)
        rw [d2, ltI] at h
        rw [e1, e2]
        have hsz : items.size = items2.size := by omega
        clear ih g1 g2 d1 d2 e1 e2 z1 z2 h1 h2 hi hi2 hlt hlt2 hk
        refine wpAny_bind (wpAny_listItems hl rfl (wpAny_bind (wpAny_listItems hb rfl (wpAny_pure ?_))))
        show R (.ok (.ret (.bool (decide (items2.size < items.size))))) _
        rw [decide_eq_false (by omega)]
        exact h
theorem list_lt (l b : Addr) (items items2 : Array Value) (n n2 : Nat) (ns ms : List Int) (h1 : items.toList.map er = il ns) (h2 : items2.toList.map er = il ms) :
    Meets (Builtin.«list.__lt__» ⟨[.ref l, .ref b], []⟩)
      (fun _ R s => s.heap.get? l = some { cls := .type "list", dict := none, data := .seq items n, slots := #[] } ∧ s.heap.get? b = some { cls := .type "list", dict := none, data := .seq items2 n2, slots := #[] } ∧
        R (.ok (.ret (.bool (ltI ns ms)))) s) := by
  intro prog w A R s h
  obtain ⟨hp, g, d, tk, os⟩ := s; obtain ⟨hl, hb, h⟩ := h
  have f3 := AutoSeq1.sub_list_list
  wp_walk using wpAny_loadPart' hl, wpAny_loadPart' hb
  exact ⟨plainId_quiet plain_eq_loop _, codeAny_builtin entry_eq_loop (by
    rw [Around.under_plainId plain_eq_loop _]
    exact lt_loop l b items items2 n n2 ns ms h1 h2 _ 0 rfl prog w A R _ ⟨hl, hb, Nat.zero_le _, Nat.zero_le _, by simpa using h⟩)⟩
theorem list_gt (l b : Addr) (items items2 : Array Value) (n n2 : Nat) (ns ms : List Int) (h1 : items.toList.map er = il ns) (h2 : items2.toList.map er = il ms) :
    Meets (Builtin.«list.__gt__» ⟨[.ref l, .ref b], []⟩)
      (fun _ R s => s.heap.get? l = some { cls := .type "list", dict := none, data := .seq items n, slots := #[] } ∧ s.heap.get? b = some { cls := .type "list", dict := none, data := .seq items2 n2, slots := #[] } ∧
        R (.ok (.ret (.bool (ltI ms ns)))) s) := by
  intro prog w A R s h
  obtain ⟨hp, g, d, tk, os⟩ := s; obtain ⟨hl, hb, h⟩ := h
  have f3 := AutoSeq1.sub_list_list
  wp_walk using wpAny_loadPart' hl, wpAny_loadPart' hb
  exact ⟨plainId_quiet plain_eq_loop _, codeAny_builtin entry_eq_loop (by
    rw [Around.under_plainId plain_eq_loop _]
    exact gt_loop l b items items2 n n2 ns ms h1 h2 _ 0 rfl prog w A R _ ⟨hl, hb, Nat.zero_le _, Nat.zero_le _, by simpa using h⟩)⟩
noncomputable def Ok (lt : Nat → Nat → Bool) (n : Nat) {α : Type} : KasT α → (α → Prop) → Prop
  | .ret a, Q => Q a
  | .ask i j k, Q => i < n ∧ j < n ∧ Ok lt n (k (lt i j)) Q
theorem Ok.bind {lt : Nat → Nat → Bool} {n : Nat} {α β : Type} {f : α → KasT β} {Q : β → Prop} : ∀ {t : KasT α}, Ok lt n t (fun a => Ok lt n (f a) Q) → Ok lt n (t.bind f) Q
  | .ret _, h => h
  | .ask _ _ _, h => ⟨h.1, h.2.1, Ok.bind h.2.2⟩
theorem Ok.mono {lt : Nat → Nat → Bool} {n : Nat} {α : Type} {Q Q' : α → Prop} (hq : ∀ a, Q a → Q' a) : ∀ {t : KasT α}, Ok lt n t Q → Ok lt n t Q'
  | .ret _, h => hq _ h
  | .ask _ _ _, h => ⟨h.1, h.2.1, Ok.mono hq h.2.2⟩
structure Ord (lt : Nat → Nat → Bool) (n : Nat) : Prop where
  irr : ∀ i, i < n → lt i i = false
  tr : ∀ i j k, i < n → j < n → k < n → lt i j = true → lt j k = true → lt i k = true
  tot : ∀ i j, i < n → j < n → i ≠ j → lt i j = true ∨ lt j i = true
structure Pm (n : Nat) (p : Array Nat) : Prop where
  perm : p.toList.Perm (List.range n)
theorem Pm.size {n : Nat} {p : Array Nat} (h : Pm n p) : p.size = n := by
  have := h.perm.length_eq
  simpa using this
theorem Pm.lt {n : Nat} {p : Array Nat} (h : Pm n p) {i : Nat} (hi : i < n) : p.getD i 0 < n := by
  have hz := h.size
  have e : p.getD i 0 = p[i]'(hz ▸ hi) := by simp [Array.getD, hz, hi]
  rw [e]
  have : p[i]'(hz ▸ hi) ∈ p.toList := by simp
  exact List.mem_range.mp (h.perm.subset this)
theorem Pm.ne {n : Nat} {p : Array Nat} (h : Pm n p) {i j : Nat} (hi : i < n) (hj : j < n) (hij : i ≠ j) : p.getD i 0 ≠ p.getD j 0 := by
  have hz := h.size
  have e1 : p.getD i 0 = p.toList[i]'(by simpa using hz ▸ hi) := by simp [Array.getD, hz, hi]
  have e2 : p.getD j 0 = p.toList[j]'(by simpa using hz ▸ hj) := by simp [Array.getD, hz, hj]
  rw [e1, e2]
  have hnd : p.toList.Nodup := h.perm.nodup_iff.mpr List.nodup_range
  intro e
  have hpw := List.pairwise_iff_getElem.mp hnd
  rcases Nat.lt_or_gt_of_ne hij with h1 | h1
  · exact hpw i j _ _ h1 e
  · exact hpw j i _ _ h1 e.symm
noncomputable def Srt (lt : Nat → Nat → Bool) (p : Array Nat) (m : Nat) : Prop := ∀ i j, i < j → j < m → lt (p.getD i 0) (p.getD j 0) = true
noncomputable def Dsc (lt : Nat → Nat → Bool) (p : Array Nat) (m : Nat) : Prop := ∀ i j, i < j → j < m → lt (p.getD j 0) (p.getD i 0) = true
section
variable {lt : Nat → Nat → Bool} {n : Nat} (O : Ord lt n)
include O
theorem other {p : Array Nat} (h : Pm n p) {i j : Nat} (hi : i < n) (hj : j < n) (hij : i ≠ j) (hf : lt (p.getD i 0) (p.getD j 0) = false) : lt (p.getD j 0) (p.getD i 0) = true := by
  rcases O.tot _ _ (h.lt hi) (h.lt hj) (h.ne hi hj hij) with h1 | h1
  · rw [h1] at hf; cases hf
  · exact h1
theorem Srt.snoc {p : Array Nat} (h : Pm n p) {m : Nat} (hm1 : 1 ≤ m) (hm : m < n) (hs : Srt lt p m) (hl : lt (p.getD (m - 1) 0) (p.getD m 0) = true) : Srt lt p (m + 1) := by
  intro i j hij hj
  by_cases e : j = m
  · subst e
    by_cases e2 : i = j - 1
    · subst e2; exact hl
    · exact O.tr _ _ _ (h.lt (by omega)) (h.lt (by omega)) (h.lt hm) (hs i (j - 1) (by omega) (by omega)) hl
  · exact hs i j hij (by omega)
theorem Dsc.snoc {p : Array Nat} (h : Pm n p) {m : Nat} (hm1 : 1 ≤ m) (hm : m < n) (hs : Dsc lt p m) (hl : lt (p.getD m 0) (p.getD (m - 1) 0) = true) : Dsc lt p (m + 1) := by
  intro i j hij hj
  by_cases e : j = m
  · subst e
    by_cases e2 : i = j - 1
    · subst e2; exact hl
    · exact O.tr _ _ _ (h.lt hm) (h.lt (by omega)) (h.lt (by omega)) hl (hs i (j - 1) (by omega) (by omega))
  · exact hs i j hij (by omega)
theorem ok_asc {p : Array Nat} (h : Pm n p) : ∀ (f a : Nat), 1 ≤ a → a + f ≤ n → Srt lt p a → Ok lt n (kas_asc p f a) (fun m => a ≤ m ∧ m ≤ a + f ∧ Srt lt p m ∧ (m < a + f → lt (p.getD m 0) (p.getD (m - 1) 0) = true))
  | 0, a, h1, h2, hs => ⟨Nat.le_refl _, Nat.le_refl _, hs, fun h => absurd h (Nat.lt_irrefl _)⟩
  | f + 1, a, h1, h2, hs => by
    refine ⟨h.lt (by omega), h.lt (by omega), ?_⟩
    cases hc : lt (p.getD a 0) (p.getD (a - 1) 0) with
    | true => exact ⟨Nat.le_refl _, by omega, hs, fun _ => hc⟩
    | false =>
      have hl := other O h (by omega) (by omega) (by omega) hc
      refine Ok.mono (fun m hm => ?_) (ok_asc h f (a + 1) (by omega) (by omega) (Srt.snoc O h h1 (by omega) hs hl))
      obtain ⟨q1, q2, q3, q4⟩ := hm
      exact ⟨by omega, by omega, q3, fun q => q4 (by omega)⟩
theorem ok_desc {p : Array Nat} (h : Pm n p) : ∀ (f a : Nat), 1 ≤ a → a + f ≤ n → Dsc lt p a → Ok lt n (kas_desc f p a 0) (fun r => r.1 = p ∧ r.2.2 = 0 ∧ a ≤ r.2.1 ∧ r.2.1 ≤ a + f ∧ Dsc lt p r.2.1)
  | 0, a, h1, h2, hs => ⟨rfl, rfl, Nat.le_refl _, Nat.le_refl _, hs⟩
  | f + 1, a, h1, h2, hs => by
    refine ⟨h.lt (by omega), h.lt (by omega), ?_⟩
    cases hc : lt (p.getD a 0) (p.getD (a - 1) 0) with
    | true =>
      simp only [if_true, gt_iff_lt, Nat.lt_irrefl, if_false]
      refine Ok.mono (fun r hr => ?_) (ok_desc h f (a + 1) (by omega) (by omega) (Dsc.snoc O h h1 (by omega) hs hc))
      obtain ⟨q1, q2, q3, q4, q5⟩ := hr
      exact ⟨q1, q2, by omega, by omega, q5⟩
    | false =>
      simp only [Bool.false_eq_true, if_false]
      have hl := other O h (by omega) (by omega) (by omega) hc
      refine ⟨h.lt (by omega), h.lt (by omega), ?_⟩
      rw [hl]
      exact ⟨rfl, rfl, Nat.le_refl _, by show a ≤ a + (f + 1); omega, hs⟩
omit O in
theorem rev_pm {p : Array Nat} (h : Pm n p) {m : Nat} : Pm n (kas_rev p 0 m) := ⟨(mirror_perm p 0 m _).toList.trans h.perm⟩
omit O in
theorem rev_get {p : Array Nat} {m : Nat} (hm : m ≤ p.size) {k : Nat} (hk : k < m) : (kas_rev p 0 m).getD k 0 = p.getD (m - 1 - k) 0 := by
  unfold kas_rev
  rw [Array.getD_eq_getD_getElem?, Array.getD_eq_getD_getElem?, getElem?_mirror_all hm, if_pos ⟨Nat.zero_le _, hk⟩]
  congr 2
  omega
omit O in
theorem rev_srt {p : Array Nat} {m : Nat} (hm : m ≤ p.size) (h : Dsc lt p m) : Srt lt (kas_rev p 0 m) m := by
  intro i j hij hj
  rw [rev_get hm (by omega), rev_get hm hj]
  exact h _ _ (by omega) (by omega)
theorem ok_tail3 {p : Array Nat} (h : Pm n p) {m : Nat} (h1 : 1 ≤ m) (hm : m ≤ n) (hd : Dsc lt p m) : Ok lt n (kas_tail3 m n p) (fun r => 1 ≤ r.1 ∧ r.1 ≤ n ∧ Pm n r.2 ∧ Srt lt r.2 r.1) := by
  unfold kas_tail3
  refine Ok.bind (Ok.mono (fun m' hm' => ?_) (ok_asc O (rev_pm h) (n - m) m h1 (by omega) (rev_srt (by rw [h.size]; exact hm) hd)))
  obtain ⟨q1, q2, q3, _⟩ := hm'
  exact ⟨by show 1 ≤ m'; omega, by show m' ≤ n; omega, rev_pm h, q3⟩
theorem ok_count {p : Array Nat} (h : Pm n p) (h2 : 2 ≤ n) : Ok lt n (kas_count n p) (fun r => 1 ≤ r.1 ∧ r.1 ≤ n ∧ Pm n r.2 ∧ Srt lt r.2 r.1) := by
  unfold kas_count
  refine Ok.bind (Ok.mono (fun m hm => ?_) (ok_asc O h (n - 1) 1 (Nat.le_refl _) (by omega) (fun i j hij hj => absurd hj (by omega))))
  obtain ⟨q1, q2, q3, q4⟩ := hm
  by_cases e : m = n
  · rw [if_pos (by simpa using e)]
    exact ⟨by show 1 ≤ m; omega, by show m ≤ n; omega, h, q3⟩
  · rw [if_neg (by simpa using e)]
    by_cases e2 : m > 1
    · rw [if_pos e2]
      refine ⟨h.lt (by omega), h.lt (by omega), ?_⟩
      rw [q3 0 (m - 1) (by omega) (by omega)]
      exact ⟨by show 1 ≤ m; omega, by show m ≤ n; omega, h, q3⟩
    · rw [if_neg e2]
      have e3 : m = 1 := by omega
      subst e3
      have hl := q4 (by omega)
      have hd : Dsc lt p 2 := by
        intro i j hij hj
        have e4 : i = 0 := by omega
        have e5 : j = 1 := by omega
        subst e4; subst e5
        exact hl
      unfold kas_descPart
      refine Ok.bind (Ok.mono (fun r hr => ?_) (ok_desc O h (n - (1 + 1)) 2 (by omega) (by omega) hd))
      obtain ⟨w1, w2, w3, w4, w5⟩ := hr
      rw [w2, if_neg (by omega), w1]
      exact ok_tail3 O h (by omega) (by omega) w5
theorem ok_place {p : Array Nat} (h : Pm n p) {k : Nat} (hk : k < n) (hs : Srt lt p k) : ∀ (f l r : Nat), r - l ≤ f → l ≤ r → r ≤ k → (∀ i, i < l → lt (p.getD i 0) (p.getD k 0) = true) → (∀ i, r ≤ i → i < k → lt (p.getD k 0) (p.getD i 0) = true) →
    Ok lt n (kas_place p k f l r) (fun m => m ≤ k ∧ (∀ i, i < m → lt (p.getD i 0) (p.getD k 0) = true) ∧ (∀ i, m ≤ i → i < k → lt (p.getD k 0) (p.getD i 0) = true))
  | 0, l, r, hf, hlr, hrk, a1, a2 => ⟨by show l ≤ k; omega, a1, fun i h1 h2 => a2 i (by omega) h2⟩
  | f + 1, l, r, hf, hlr, hrk, a1, a2 => by
    unfold kas_place
    by_cases e : l ≥ r
    · rw [if_pos e]
      exact ⟨by show l ≤ k; omega, a1, fun i h1 h2 => a2 i (by omega) h2⟩
    · rw [if_neg e]
      have hm1 : (l + r) / 2 < r := by omega
      have hm2 : l ≤ (l + r) / 2 := by omega
      refine ⟨h.lt hk, h.lt (by omega), ?_⟩
      cases hc : lt (p.getD k 0) (p.getD ((l + r) / 2) 0) with
      | true =>
        simp only [if_true]
        refine ok_place h hk hs f l _ (by omega) hm2 (by omega) a1 fun i h1 h2 => ?_
        by_cases e2 : i = (l + r) / 2
        · rw [e2]; exact hc
        · exact O.tr _ _ _ (h.lt hk) (h.lt (by omega)) (h.lt (by omega)) hc (hs _ i (by omega) h2)
      | false =>
        simp only [Bool.false_eq_true, if_false]
        have hl := other O h hk (by omega) (by omega) hc
        refine ok_place h hk hs f _ r (by omega) (by omega) hrk (fun i h1 => ?_) a2
        by_cases e2 : i = (l + r) / 2
        · rw [e2]; exact hl
        · exact O.tr _ _ _ (h.lt (by omega)) (h.lt (by omega)) (h.lt hk) (hs i _ (by omega) (by omega)) hl
omit O in
theorem bub_pm {p : Array Nat} (h : Pm n p) {k d : Nat} : Pm n (bubble p k d) := ⟨(bubble_perm p k d).toList.trans h.perm⟩
omit O in
theorem bub_get {p : Array Nat} {k m : Nat} (hk : k < p.size) (hm : m ≤ k) (j : Nat) : (bubble p k (k - m)).getD j 0 = if j = m then p.getD k 0 else if m < j ∧ j ≤ k then p.getD (j - 1) 0 else p.getD j 0 := by
  rw [Array.getD_eq_getD_getElem?, getElem?_bubble hk (k - m) (by omega)]
  have e : k - (k - m) = m := by omega
  rw [e]
  simp only [Array.getD_eq_getD_getElem?]
  split
  · rfl
  · split <;> rfl
omit O in
theorem bub_srt {p : Array Nat} (h : Pm n p) {k m : Nat} (hk : k < n) (hs : Srt lt p k) (hm : m ≤ k) (a1 : ∀ i, i < m → lt (p.getD i 0) (p.getD k 0) = true) (a2 : ∀ i, m ≤ i → i < k → lt (p.getD k 0) (p.getD i 0) = true) : Srt lt (bubble p k (k - m)) (k + 1) := by
  intro i j hij hj
  have hk' : k < p.size := by rw [h.size]; exact hk
  rw [bub_get hk' hm, bub_get hk' hm]
  by_cases e1 : i = m
  · rw [if_pos e1, if_neg (by omega), if_pos (by omega)]
    exact a2 _ (by omega) (by omega)
  · rw [if_neg e1]
    by_cases e2 : j = m
    · rw [if_pos e2, if_neg (by omega)]
      exact a1 _ (by omega)
    · rw [if_neg e2]
      by_cases e3 : m < i ∧ i ≤ k
      · rw [if_pos e3, if_pos (by omega)]
        exact hs _ _ (by omega) (by omega)
      · rw [if_neg e3]
        by_cases e4 : m < j ∧ j ≤ k
        · rw [if_pos e4]
          exact hs _ _ (by omega) (by omega)
        · rw [if_neg e4]
          exact hs _ _ (by omega) (by omega)
theorem ok_bin : ∀ (f : Nat) {p : Array Nat} (h : Pm n p) {k : Nat}, f + k = n → Srt lt p k → Ok lt n (kas_bin f p k) (fun q => Pm n q ∧ Srt lt q n)
  | 0, p, h, k, e, hs => by
    have e2 : k = n := by omega
    exact ⟨h, e2 ▸ hs⟩
  | f + 1, p, h, k, e, hs => by
    unfold kas_bin
    refine Ok.bind (Ok.mono (fun m hm => ?_) (ok_place O h (by omega) hs k 0 k (by omega) (by omega) (Nat.le_refl _) (fun i hi => absurd hi (by omega)) (fun i h1 h2 => absurd h1 (by omega))))
    obtain ⟨q1, q2, q3⟩ := hm
    exact ok_bin f (bub_pm h) (by omega) (bub_srt h (by omega) hs q1 q2 q3)
theorem ok_sort (h2 : 2 ≤ n) : Ok lt n (kas_sort n) (fun q => Pm n q ∧ Srt lt q n) := by
  unfold kas_sort
  have h0 : Pm n (List.toArray (List.range n)) := ⟨by simp⟩
  refine Ok.bind (Ok.mono (fun r hr => ?_) (ok_count O h0 h2))
  obtain ⟨q1, q2, q3, q4⟩ := hr
  by_cases e : r.1 < n
  · rw [if_pos e]
    have e2 : max r.1 1 = r.1 := by omega
    rw [e2]
    exact ok_bin O _ q3 (by omega) q4
  · rw [if_neg e]
    have e3 : r.1 = n := by omega
    exact ⟨q3, e3 ▸ q4⟩
end
theorem sort_small {prog : Program} {w : World} {A : Around} {E : Value → Shared → Prop} {s : Shared} {a : Addr} {vs : List Value} {n : Nat} {P : PySem.Fin → Shared → Prop} (ho : s.heap.get? a = some (seqObj "list" vs.toArray n)) (h2 : vs.length < 2)
    (h : ∀ h' e, (∀ b o, b ≠ a → s.heap.get? b = some o → h'.get? b = some o) → h'.get? a = some (seqObj "list" vs.toArray e) → P (.done (.ret .none)) { s with heap := h' }) :
    wpAny (model prog w) A (Builtin.«list.sort» ⟨[.ref a], []⟩) P E s := by
  rw [list_sort_plain]
  have ha : a < s.heap.objs.size := Heap.lt_size ho
  have h1000 : vs.toArray.size ≤ sizeLine := by rw [List.size_toArray, sizeLine_eq]; omega
  refine wpAny_bind (listItems_at ho rfl ?_)
  refine wpAny_bind (listUpdate_at ho rfl ?_)
  obtain ⟨e1, ho1⟩ : ∃ e1, (s.heap.update a (Obj.mapSeq fun _ => #[])).get? a = some (seqObj "list" #[] e1) := ⟨_, get?_update_seq ho (fun _ => #[])⟩
  refine wpAny_bind (seqEpoch_at ho1 rfl ?_)
  refine wpAny_bind (wpAny_newTuple ?_)
  refine wpAny_bind (wpAny_newList ?_)
  refine wpAny_holding ?_
  have ho6 : (((s.heap.update a (Obj.mapSeq fun _ => #[])).push (seqObj "tuple" vs.toArray 0)).push (seqObj "list" #[] 0)).get? a = some (seqObj "list" #[] e1) := by
    rw [Heap.get?_push_ne _ _ _ (by rw [size_push', Heap.size_update]; exact Nat.ne_of_lt (Nat.lt_succ_of_lt ha)), Heap.get?_push_ne _ _ _ (by rw [Heap.size_update]; exact Nat.ne_of_lt ha)]
    exact ho1
  show wpAny (model prog w) A _ P E { s with heap := ((s.heap.update a (Obj.mapSeq fun _ => #[])).push (seqObj "tuple" vs.toArray 0)).push (seqObj "list" #[] 0) }
  dsimp only
  have hsz : vs.toArray.size < 2 := by simpa using h2
  rw [if_pos hsz, if_pos hsz]
  refine wpAny_bind (wpAny_pure ?_)
  rw [StateT.run_pure]
  refine wpAny_bind (wpAny_pure ?_)
  dsimp only
  refine wpAny_bind (seqEpoch_at ho6 rfl ?_)
  have hz2 : (vs.toArray.zip vs.toArray).map (·.2) = vs.toArray := by
    apply Array.ext
    · simp
    · intro i h1 h2
      simp
  refine wpAny_bind (listUpdate_at ho6 rfl ?_ (hsz2 := by rw [Array.size_map]; show (pairsOf vs).size ≤ _; rw [pairsOf_size, sizeLine_eq]; omega))
  simp only [bne_self_eq_false, Bool.false_eq_true, if_false]
  show wpAny (model prog w) A (ret Value.none) P E { s with heap := (((s.heap.update a (Obj.mapSeq fun _ => #[])).push (seqObj "tuple" vs.toArray 0)).push (seqObj "list" #[] 0)).update a (Obj.mapSeq fun _ => (vs.toArray.zip vs.toArray).map (·.2)) }
  rw [hz2]
  refine wpAny_pure (h _ _ (fun b o hb e => ?_) (get?_update_seq ho6 (fun _ => vs.toArray)))
  have hlt : b < s.heap.objs.size := Heap.lt_size e
  rw [Heap.get?_update_ne _ _ _ _ hb, Heap.get?_push_ne _ _ _ (by rw [size_push', Heap.size_update]; exact Nat.ne_of_lt (Nat.lt_succ_of_lt hlt)), Heap.get?_push_ne _ _ _ (by rw [Heap.size_update]; exact Nat.ne_of_lt hlt), Heap.get?_update_ne _ _ _ _ hb]
  exact e
theorem sorted_small {prog : Program} {w : World} {A : Around} {E : Value → Shared → Prop} {s : Shared} {l : Addr} {vs : List Value} {Q : Value → Shared → Prop} (hl : s.heap.IsList l vs.toArray) (h2 : vs.length < 2)
    (h : ∀ D h' e, s.heap.objs.size ≤ D → (∀ b o, s.heap.get? b = some o → h'.get? b = some o) → h'.get? D = some (seqObj "list" vs.toArray e) → Q (.ref D) { s with heap := h' }) :
    wpAny (model prog w) A (call (.builtin "sorted") [.ref l]) Q E s := by
  refine Calls.call_function_entry kind_sorted plain_sorted entry_sorted (args_sorted1 _) ?_
  unfold Builtin.«sorted»
  refine wpAny_bind (m := checkCount "sorted" 1 1 _) (wpAny_pure ?_)
  refine wpAny_bind (collect_list hl ?_ (by rw [sizeLine_eq]; omega))
  refine wpAny_bind (wpAny_newList ?_ (by rw [sizeLine_eq]; omega))
  have hsz : ((s.heap.push (seqObj "list" #[] 0)).update s.heap.objs.size (Obj.mapSeq (· ++ vs.toArray))).objs.size = s.heap.objs.size + 1 := by
    rw [Heap.size_update, size_push']
  have hoL : (((s.heap.push (seqObj "list" #[] 0)).update s.heap.objs.size (Obj.mapSeq (· ++ vs.toArray))).push (seqObj "list" vs.toArray 0)).get? (s.heap.objs.size + 1) = some (seqObj "list" vs.toArray 0) := by
    rw [← hsz]; exact Heap.get?_push_size _ rfl
  have keep : ∀ b o, s.heap.get? b = some o → (((s.heap.push (seqObj "list" #[] 0)).update s.heap.objs.size (Obj.mapSeq (· ++ vs.toArray))).push (seqObj "list" vs.toArray 0)).get? b = some o := fun b o q => by
    have hlt : b < s.heap.objs.size := Heap.lt_size q
    rw [Heap.get?_push_ne _ _ _ (by rw [hsz]; exact Nat.ne_of_lt (Nat.lt_succ_of_lt hlt)), Heap.get?_update_ne _ _ _ _ (Nat.ne_of_lt hlt), Heap.get?_push_ne _ _ _ (Nat.ne_of_lt hlt)]
    exact q
  show wpAny _ _ _ _ _ { s with heap := ((s.heap.push (seqObj "list" #[] 0)).update s.heap.objs.size (Obj.mapSeq (· ++ vs.toArray))).push (seqObj "list" vs.toArray 0) }
  rw [hsz]
  refine wpAny_bind (wpAny_holding (wpAny_call_entry slot_list_sort ⟨_, hoL, rfl⟩ entry_list_sort (sort_small (s := { s with heap := ((s.heap.push (seqObj "list" #[] 0)).update s.heap.objs.size (Obj.mapSeq (· ++ vs.toArray))).push (seqObj "list" vs.toArray 0) }) hoL h2 fun h' e hk ho => ⟨_, rfl, ?_⟩) (args_list_sort _)))
  refine wpAny_pure ⟨_, rfl, h _ h' e (Nat.le_succ _) (fun b o q => hk b o ?_ (keep b o q)) ho⟩
  exact Nat.ne_of_lt (Nat.lt_succ_of_lt (Heap.lt_size q))
section
variable {Z : Amb} {A : Around} {l l' : Led} {X : Value → Shared → Prop}
theorem c_ltl {a b : Addr} {ns ms : List Int} {Q : Bool → Led → Prop} (ha : (a, .list (il ns)) ∈ l) (hb : (b, .list (il ms)) ∈ l) (hu : A.units < cLine) (h : Q (ltI ns ms) l) : CP Z A .Lt (.ref a) (.ref b) l Q X := by
  rintro va vb e1 e2 s Q' hs hQ
  obtain rfl := er_ref e1; obtain rfl := er_ref e2
  obtain ⟨vs, n, h1, g1⟩ := hs.listAt ha
  obtain ⟨us, k, h2, g2⟩ := hs.listAt hb
  show wpAny _ _ (richCompare .Lt (.ref a) (.ref b)) _ _ _
  exact richCompare_meets_room (T := "list") ⟨_, h1, rfl⟩ ⟨_, h2, rfl⟩ PySem.F.slot_list_lt PySem.F.entry_list_lt (PySem.F.args_list_lt_2 _ _) (list_lt a b vs us n k ns ms g1 g2) ⟨h1, h2, by simp, hQ _ _ _ hs ⟨_, rfl, h⟩⟩ hu
theorem c_gtl {a b : Addr} {ns ms : List Int} {Q : Bool → Led → Prop} (ha : (a, .list (il ns)) ∈ l) (hb : (b, .list (il ms)) ∈ l) (hu : A.units < cLine) (h : Q (ltI ms ns) l) : CP Z A .Gt (.ref a) (.ref b) l Q X := by
  rintro va vb e1 e2 s Q' hs hQ
  obtain rfl := er_ref e1; obtain rfl := er_ref e2
  obtain ⟨vs, n, h1, g1⟩ := hs.listAt ha
  obtain ⟨us, k, h2, g2⟩ := hs.listAt hb
  show wpAny _ _ (richCompare .Gt (.ref a) (.ref b)) _ _ _
  exact richCompare_meets_room (T := "list") ⟨_, h1, rfl⟩ ⟨_, h2, rfl⟩ PySem.F.slot_list_gt PySem.F.entry_list_gt (PySem.F.args_list_gt_2 _ _) (list_gt a b vs us n k ns ms g1 g2) ⟨h1, h2, by simp, hQ _ _ _ hs ⟨_, rfl, h⟩⟩ hu
theorem key_lt {prog : Program} {w : World} {E : Value → Shared → Prop} {s : Shared} {a b : Addr} {vs us : Array Value} {n k : Nat} {ns ms : List Int} {Q : Bool → Shared → Prop} (h1 : s.heap.get? a = some { cls := .type "list", data := .seq vs n }) (h2 : s.heap.get? b = some { cls := .type "list", data := .seq us k })
    (g1 : vs.toList.map er = il ns) (g2 : us.toList.map er = il ms) (hu : A.units < cLine) (h : Q (ltI ns ms) s) : wpAny (model prog w) A (keyLt' oneType' (.ref a) (.ref b)) Q E s := by
  rw [keyLt'_oneType, oneLt'_eq]
  simp only [if_true]
  refine wpAny_bind (wpAny_cRoomFor hu ?_)
  refine wpAny_bind (wpAny_callSpecialIfBound?_slot (T := "list") ⟨_, h1, rfl⟩ PySem.F.slot_list_lt (call_meets (T := "list") PySem.F.slot_list_lt ⟨_, h1, rfl⟩ PySem.F.entry_list_lt (PySem.F.args_list_lt_2 _ _) (list_lt a b vs us n k ns ms g1 g2) ⟨h1, h2, ?_⟩))
  exact wpAny_truthy_bool h
theorem er_ints : ∀ {vs : List Value} {ns : List Int}, IntsAre vs ns → vs.map er = il ns
  | _, _, .nil => rfl
  | _, _, .cons k t r => by simp only [List.map_cons, er_ints r]; rfl
theorem b_sortedI {a : Addr} {ns : List Int} {Q : AV → Led → Prop} (ha : (a, .list (il ns)) ∈ l) (hz : ns.length < 64) (h : ∀ b ms, ms.Perm ns → ms.Pairwise (· ≤ ·) → Q (.ref b) ((b, .list (il ms)) :: l)) : CL Z A (.builtin "sorted") [.ref a] l Q X := by
  rintro vs e s Q' hs hQ
  obtain ⟨v, rfl, e2⟩ := one_arg e
  obtain rfl := er_ref e2
  obtain ⟨its, n, hL, g⟩ := hs.listAt ha
  have hz2 : its.toList.length = ns.length := by simpa using congrArg List.length g
  refine sorted_ints (vs := its.toList) (by simpa using hL.isList) (intsAre_of g) (by omega) fun out ns' h1 h2 h3 => ?_
  obtain ⟨e, he⟩ := sortedAll_at s.heap its.toList out
  exact hQ (.ref _) _ _ (hs.new (tk := s.toks) (o := .list (il ns')) (fun b o q => sortedAll_old q) (Nat.le_succ _) he ⟨out, e, rfl, er_ints h1⟩) (h _ ns' h2 h3)
theorem getD_lt {α : Type} {xs : List α} {i : Nat} {d : α} (h : i < xs.length) : xs.getD i d = xs[i] := by simp [List.getD, h]
theorem ltI_irr : ∀ (x : List Int), ltI x x = false
  | [] => rfl
  | a :: r => by rw [ltI, if_pos rfl]; exact ltI_irr r
theorem ltI_trans : ∀ (x y z : List Int), ltI x y = true → ltI y z = true → ltI x z = true
  | [], [], _, h, _ => by simp [ltI] at h
  | [], _ :: _, [], _, h => by simp [ltI] at h
  | [], _ :: _, _ :: _, _, _ => rfl
  | _ :: _, [], _, h, _ => by simp [ltI] at h
  | _ :: _, _ :: _, [], _, h => by simp [ltI] at h
  | a :: x, b :: y, c :: z, h1, h2 => by
    rw [ltI] at h1 h2 ⊢
    by_cases e1 : a = b
    · subst e1
      rw [if_pos rfl] at h1
      by_cases e2 : a = c
      · subst e2
        rw [if_pos rfl] at h2 ⊢
        exact ltI_trans x y z h1 h2
      · rw [if_neg e2] at h2 ⊢; exact h2
    · rw [if_neg e1] at h1
      have h1' := of_decide_eq_true h1
      by_cases e2 : b = c
      · subst e2
        rw [if_neg e1]; exact h1
      · rw [if_neg e2] at h2
        have h2' := of_decide_eq_true h2
        rw [if_neg (by omega)]
        exact decide_eq_true (by omega)
theorem ltI_tot : ∀ (x y : List Int), x ≠ y → ltI x y = true ∨ ltI y x = true
  | [], [], h => absurd rfl h
  | [], _ :: _, _ => .inl rfl
  | _ :: _, [], _ => .inr rfl
  | a :: x, b :: y, h => by
    by_cases e : a = b
    · subst e
      rw [ltI, ltI, if_pos rfl, if_pos rfl]
      exact ltI_tot x y (fun q => h (by rw [q]))
    · rw [ltI, ltI, if_neg e, if_neg (fun q => e q.symm)]
      rcases Int.lt_or_gt_of_ne e with h1 | h1
      · exact .inl (decide_eq_true h1)
      · exact .inr (decide_eq_true h1)
theorem ord_ways {ways : List (List Int)} (hnd : ways.Nodup) : Ord (fun i j => ltI (ways.getD i []) (ways.getD j [])) ways.length where
  irr := fun i _ => ltI_irr _
  tr := fun i j k _ _ _ h1 h2 => ltI_trans _ _ _ h1 h2
  tot := fun i j hi hj hij => by
    refine ltI_tot _ _ fun e => ?_
    rw [getD_lt hi, getD_lt hj] at e
    have hpw := List.pairwise_iff_getElem.mp hnd
    rcases Nat.lt_or_gt_of_ne hij with h1 | h1
    · exact hpw i j _ _ h1 e
    · exact hpw j i _ _ h1 e.symm
theorem kas_of {s : Shared} {cmp : Nat → Nat → (Bool → Shared → Prop) → Shared → Prop} {lt : Nat → Nat → Bool} {n : Nat} {α : Type} {Q : α → Prop} {QQ : α → Shared → Prop} (hc : ∀ i j, i < n → j < n → ∀ C : Bool → Shared → Prop, C (lt i j) s → cmp i j C s) (hq : ∀ a, Q a → QQ a s) : ∀ {t : KasT α}, Ok lt n t Q → t.kasWp cmp QQ s
  | .ret a, h => hq a h
  | .ask i j k, h => hc i j h.1 h.2.1 _ (kas_of hc hq h.2.2)
noncomputable def nw (s : Shared) (l : Led) (L : Addr) : List (Addr × Obj) := l.filterMap fun p => if p.1 = L then none else (s.heap.get? p.1).map fun o => (p.1, o)
theorem mem_nw {s : Shared} {l : Led} {L : Addr} {q : Addr × Obj} : q ∈ nw s l L ↔ ∃ p ∈ l, p.1 ≠ L ∧ q.1 = p.1 ∧ s.heap.get? p.1 = some q.2 := by
  unfold nw
  rw [List.mem_filterMap]
  constructor
  · rintro ⟨p, hp, e⟩
    split at e
    · cases e
    · rename_i hne
      obtain ⟨o, ho, rfl⟩ := Option.map_eq_some_iff.mp e
      exact ⟨p, hp, hne, rfl, ho⟩
  · rintro ⟨p, hp, hne, e1, e2⟩
    refine ⟨p, hp, ?_⟩
    rw [if_neg hne, e2, ← e1]
    rfl
theorem Sat.news_of {s : Shared} (hs : Sat Z l s) {L : Addr} : News Z.h₀ L s.heap (nw s l L) := by
  intro q hq
  obtain ⟨p, hp, hne, e1, e2⟩ := mem_nw.mp hq
  obtain ⟨h1, _⟩ := hs.obj (a := p.1) (o := p.2) hp
  rw [e1]
  exact ⟨e2, hne, Heap.get?_none_of_le h1⟩
theorem Sat.nd {s : Shared} (hs : Sat Z l s) : (l.map (·.1)).Nodup := by
  obtain ⟨hp, tk, rfl, R⟩ := hs; exact R.nd
theorem Sat.back {s : Shared} (hs : Sat Z l s) {L : Addr} {m : List (Str × Option AV)} {f : Str → Option Value} {h' : Heap} {tk : Nat} (hL : (L, .frame m) ∈ l) (hf : ∀ x, (f x).map er = look m x) (F : Fr Z.h₀ L h' f) (N : News Z.h₀ L h' (nw s l L)) : Sat Z l { s with heap := h', toks := tk } := by
  have hnd := hs.nd
  have hobj := fun p hp => hs.obj (a := (p : Addr × AObj).1) (o := p.2) hp
  have hm0 := hobj (L, .frame m) hL
  obtain ⟨h, t, rfl, R⟩ := hs
  refine ⟨h', tk, rfl, F.keep, hnd, fun p hp => ?_, L, _, F.above, F.ns.choose_spec.choose_spec.choose_spec.1⟩
  by_cases e : p.1 = L
  · have hpe : p = (L, .frame m) := by
      have h1 : l.Pairwise (fun a b => a.1 ≠ b.1) := List.pairwise_map.mp hnd
      obtain ⟨i, hi, e1⟩ := List.mem_iff_getElem.mp hp
      obtain ⟨j, hj, e2⟩ := List.mem_iff_getElem.mp hL
      rcases Nat.lt_trichotomy i j with h2 | h2 | h2
      · have := List.pairwise_iff_getElem.mp h1 i j hi hj h2
        rw [e1, e2] at this
        exact absurd e this
      · subst h2; rw [← e1, e2]
      · have := List.pairwise_iff_getElem.mp h1 j i hj hi h2
        rw [e1, e2] at this
        exact absurd e.symm this
    subst hpe
    obtain ⟨_, ob0, _, hmn, _⟩ := hm0
    obtain ⟨ob, es, ep, ho, hd, hsk, hl⟩ := F.ns
    exact ⟨F.above, ob, ho, hmn, es, ep, hd, hsk, fun x => by rw [hl]; exact hf x⟩
  · obtain ⟨h1, ob, ho, hi⟩ := hobj p hp
    exact ⟨h1, ob, (N (p.1, ob) (mem_nw.mpr ⟨p, hp, e, rfl, ho⟩)).1, hi⟩
theorem Sat.add {s : Shared} (hs : Sat Z l s) {D : Addr} {o : AObj} {ob : Obj} (h1 : D ∉ l.map (·.1)) (h2 : Z.h₀.objs.size ≤ D) (h3 : s.heap.get? D = some ob) (h4 : o.Is Z.prog Z.w ob) : Sat Z ((D, o) :: l) s := by
  obtain ⟨hp, tk, rfl, R⟩ := hs
  refine ⟨hp, tk, rfl, R.keep, List.nodup_cons.mpr ⟨h1, R.nd⟩, fun p hp => ?_, R.sent⟩
  rcases List.mem_cons.mp hp with rfl | hp
  · exact ⟨h2, ob, h3, h4⟩
  · exact R.objs p hp
theorem units2 {A : Around} (h : A.units + 64 < cLine) : A.in1.in1.units < cLine := by
  have h1 := Around.in1_units A
  have h2 := Around.in1_units A.in1
  omega
theorem b_sortedL {L : Addr} {m : List (Str × Option AV)} {a : Addr} {ws : List Addr} {ways : List (List Int)} {Q : AV → Led → Prop} (hL : (L, .frame m) ∈ l) (ha : (a, .list (ws.map AV.ref)) ∈ l) (hlen : ws.length = ways.length)
    (hw : ∀ i (h1 : i < ws.length) (h2 : i < ways.length), (ws[i], AObj.list (il ways[i])) ∈ l) (hnd : ways.Nodup) (h64 : ways.length < 64) (hu : A.units + 64 < cLine)
    (h : ∀ b (q : List Nat), q.Perm (List.range ways.length) → (∀ i j, i < j → j < ways.length → ltI (ways.getD (q.getD i 0) []) (ways.getD (q.getD j 0) []) = true) → Q (.ref b) ((b, .list (q.map fun i => AV.ref (ws.getD i 0))) :: l)) : CL Z A (.builtin "sorted") [.ref a] l Q X := by
  rintro vs e s Q' hs hQ
  obtain ⟨v, rfl, e2⟩ := one_arg e
  obtain rfl := er_ref e2
  obtain ⟨its, n, hLs, g⟩ := hs.listAt ha
  have hits : its.toList = ws.map Value.ref := by
    apply List.ext_getElem?
    intro i
    have h1 : (its.toList.map er)[i]? = (ws.map AV.ref)[i]? := by rw [g]
    rw [List.getElem?_map, List.getElem?_map] at h1
    rw [List.getElem?_map]
    cases e1 : its.toList[i]? with
    | none => rw [e1] at h1; cases e3 : ws[i]? with
      | none => rfl
      | some x => rw [e3] at h1; cases h1
    | some x => rw [e1] at h1; cases e3 : ws[i]? with
      | none => rw [e3] at h1; cases h1
      | some y =>
        rw [e3] at h1
        have h2 : er x = .ref y := by simpa using h1
        rw [er_ref h2]; rfl
  have hisL : s.heap.IsList a (ws.map Value.ref).toArray := by rw [← hits]; simpa using hLs.isList
  by_cases h2 : ws.length < 2
  · refine sorted_small (vs := ws.map Value.ref) hisL (by simpa using h2) fun D h' e hD hk ho => ?_
    refine hQ (.ref D) _ _ (hs.new (tk := s.toks) (o := .list ((List.range ways.length).map fun i => AV.ref (ws.getD i 0))) hk hD ho ⟨_, e, rfl, ?_⟩) (h D _ (.refl _) fun i j hij hj => by omega)
    apply List.ext_getElem
    · simp [hlen]
    · intro i h3 h4
      simp at h3 h4
      simp [er, h3]
  · obtain ⟨_, obL, hoL, hmn, es, ep, hd, hsk, hl⟩ := hs.obj hL
    have F : Fr Z.h₀ L s.heap (nsFind es) := ⟨⟨obL, es, ep, hoL, hd, hsk, fun _ => rfl⟩, hs.keep, (hs.obj hL).1⟩
    have N : News Z.h₀ L s.heap (nw s l L) := hs.news_of
    have hwo : ∀ i (h1 : i < ws.length), ∃ vs n, s.heap.get? ws[i] = some { cls := .type "list", data := .seq vs n } ∧ vs.toList.map er = il (ways.getD i []) ∧ (ws[i], ({ cls := .type "list", data := .seq vs n } : Obj)) ∈ nw s l L := by
      intro i h1
      have hm := hw i h1 (hlen ▸ h1)
      obtain ⟨vs, n, g1, g2⟩ := hs.listAt hm
      refine ⟨vs, n, g1, by rw [getD_lt (hlen ▸ h1)]; exact g2, mem_nw.mpr ⟨_, hm, fun e => ?_, rfl, g1⟩⟩
      have hx : (L, AObj.list (il (ways[i]'(hlen ▸ h1)))) ∈ l := by rw [← e]; exact hm
      obtain ⟨_, ob2, ho2, vs2, n2, e3, _⟩ := hs.obj hx
      rw [hoL] at ho2
      cases ho2
      rw [e3] at hd
      cases hd
    refine kas_sorted (vs := ws.map Value.ref) (T := .type "list") F N hisL (by simp; omega) (by simp; omega) (fun h' F' N' v hv => ?_) (by decide) fun D e1 h' F' N' hD => ?_
    · obtain ⟨x, hx, rfl⟩ := List.mem_map.mp hv
      obtain ⟨i, hi, rfl⟩ := List.mem_iff_getElem.mp hx
      obtain ⟨vs, n, _, _, hm⟩ := hwo i hi
      exact kitAt_ty _ _ ⟨_, (N' _ hm).1, rfl⟩
    · have hn : (ws.map Value.ref).length = ways.length := by simp [hlen]
      rw [hn]
      have hge : 2 ≤ ways.length := by omega
      refine kas_of (lt := fun i j => ltI (ways.getD i []) (ways.getD j [])) (n := ways.length) (fun i j hi hj C hC => ?_) (fun p hp => ?_) (ok_sort (ord_ways hnd) hge)
      · obtain ⟨vs, n1, g1, g2, hm1⟩ := hwo i (by omega)
        obtain ⟨us, n2, g3, g4, hm2⟩ := hwo j (by omega)
        unfold kas_ask
        have e3 : (ws.map Value.ref).getD i Value.none = .ref (ws[i]'(by omega)) := by rw [getD_lt (by simp; omega), List.getElem_map]
        have e4 : (ws.map Value.ref).getD j Value.none = .ref (ws[j]'(by omega)) := by rw [getD_lt (by simp; omega), List.getElem_map]
        rw [e3, e4]
        exact key_lt (N' _ (.tail _ hm1)).1 (N' _ (.tail _ hm2)).1 g2 g4 (units2 hu) hC
      · obtain ⟨q1, q2⟩ := hp
        refine KasFin.intro F' N' (.head fun q hq => Nat.ne_of_lt (hD q hq)) fun h'' c F'' N'' => ?_
        have hS : Sat Z l { s with heap := h'', toks := s.toks } := hs.back hL hl F'' fun q hq => N'' q (.tail _ hq)
        have hDo := (N'' _ (.head _)).1
        have hDl : D ∉ l.map (·.1) := by
          intro hm
          obtain ⟨p', hp', e⟩ := List.mem_map.mp hm
          by_cases e5 : p'.1 = L
          · exact (N'' _ (.head _)).2.1 (by rw [← e, e5])
          · obtain ⟨_, ob, ho, _⟩ := hs.obj (a := p'.1) (o := p'.2) hp'
            have := hD _ (mem_nw.mpr ⟨p', hp', e5, rfl, ho⟩ : (p'.1, ob) ∈ nw s l L)
            exact absurd e (Nat.ne_of_lt this)
        have hDz : Z.h₀.objs.size ≤ D := by
          have hmem := (hwo 0 (by omega)).choose_spec.choose_spec.2.2
          have h1 := (hs.obj (hw 0 (by omega) (by omega))).1
          exact Nat.le_of_lt (Nat.lt_of_le_of_lt h1 (hD _ hmem))
        refine hQ (.ref D) _ _ ?_ (h D p.toList q1.perm fun i j hij hj => ?_)
        · refine hS.add hDl hDz hDo ⟨_, c, rfl, ?_⟩
          rw [List.map_map]
          apply List.map_congr_left
          intro i hi
          have hi' : i < ways.length := List.mem_range.mp (q1.perm.subset hi)
          have e3 : (ws.map Value.ref).getD i Value.none = .ref (ws[i]'(by omega)) := by rw [getD_lt (by simp; omega), List.getElem_map]
          show er ((ws.map Value.ref).getD i Value.none) = _
          rw [e3, getD_lt (by omega)]
          rfl
        · have := q2 i j hij hj
          simpa [Array.getD_eq_getD_getElem?, List.getD] using this
end
theorem not_elem {fs : List (Str × AV)} {x : Str} (h : (fs.map (·.1)).elem x = false) : x ∉ fs.map (·.1) := by
  intro hm
  rw [List.elem_eq_contains, List.contains_iff_mem.mpr hm] at h
  cases h
theorem Sb.refl {l : Led} : Sb l l := ⟨l, .refl _, .refl _⟩
theorem Sb.drop {l l' : Led} {p : Addr × AObj} (h : Sb l' l) : Sb l' (p :: l) := let ⟨m, h1, h2⟩ := h; ⟨m, h1, h2.cons _⟩
inductive Pick {α : Type} (p : α) : List α → List α → Prop
  | head {r} : Pick p (p :: r) r
  | tail {q r r'} : Pick p r r' → Pick p (q :: r) (q :: r')
theorem Pick.perm {α : Type} {p : α} {l r : List α} (h : Pick p l r) : l.Perm (p :: r) := by
  induction h with
  | head => exact .refl _
  | tail _ ih => exact (ih.cons _).trans (.swap _ _ _)
theorem Sb.trans {a b c : Led} (h : Sb a b) (h2 : Sb b c) : Sb a c := by
  obtain ⟨m, h1, h3⟩ := h
  obtain ⟨n, h4, h5⟩ := h2
  obtain ⟨k, h6, h7⟩ := List.exists_perm_sublist h3 h4
  exact ⟨k, h1.trans h6.symm, h7.trans h5⟩
theorem Sb.ofPerm {a b : Led} (h : a.Perm b) : Sb a b := ⟨b, h, .refl _⟩
theorem Sb.cons {a b : Led} {p : Addr × AObj} (h : Sb a b) : Sb (p :: a) (p :: b) := let ⟨m, h1, h2⟩ := h; ⟨p :: m, h1.cons _, h2.cons_cons _⟩
theorem Sb.pick {l l' r : Led} {p : Addr × AObj} (h : Pick p l r) (h2 : Sb l' r) : Sb (p :: l') l := Sb.trans h2.cons (.ofPerm h.perm.symm)
theorem Pick.head' {a : Addr} {o o' : AObj} {r : Led} (h : o' = o) : Pick (a, o) ((a, o') :: r) r := h ▸ .head
local macro_rules | `(tactic| l_intsC) => `(tactic| first | ((with_reducible refine Pick.head' ?_); rfl) | ((with_reducible apply Pick.tail); l_intsC))
local macro_rules | `(tactic| tb_rel) => `(tactic| first | exact Sb.refl | (refine Sb.pick (by l_intsC) ?_; tb_rel) | (refine Sb.drop ?_; tb_rel))
theorem st_attrNew2 {Z : Amb} {A : Around} {l l' : Led} {X : Value → Shared → Prop} {x C d : Addr} {fs fs' : List (Str × AV)} {name : Str} {v : AV} {Q : Led → Prop} (hx : (x, .inst C d) ∈ l) (hd : (d, .idict fs) ∈ l) (hfs : fs ++ [(name, v)] = fs') (U : Up1 d (.idict fs) (.idict fs') l l') (hm : name ∉ fs.map (·.1)) (hK : storeOk' Z.K C name = true) (hz : fs.length ≤ 100) (h : Q l') :
    ∀ vo, er vo = .ref x → ST Z A (setAttr vo name) v l Q X := by
  subst hfs
  exact st_attrNew hx U hm hK hz h
section
variable {Z : Amb} {A : Around} {l : Led} {X : Value → Shared → Prop}
theorem nodeInit_ok (P : PX Z) {x d : Addr} {kind name uri loc val : Str} {par : Option Nat} {Q : AV → Led → Prop} (hr : Room A 2)
    (h : ∀ c a n, Q .none ((x, .inst P.cN d) :: (d, .idict (nodeD ⟨x, d, c, a, n, kind, name, uri, loc, val, par, [], [], []⟩)) :: (c, .list (inl [])) :: (a, .list (inl [])) :: (n, .list (inl [])) :: l)) :
    CD Z A (.ref P.fN) [.ref x, .str kind, .str name, .str uri, .str loc, .str val, pav par] ((x, .inst P.cN d) :: (d, .idict []) :: l) Q X := by
  refine cd_fn P.dN (m := [("self", some (.ref x)), ("kind", some (.str kind)), ("name", some (.str name)), ("uri", some (.str uri)), ("local", some (.str loc)), ("value", some (.str val)), ("parent", some (pav par))]) (names := [("self", .local), ("kind", .local), ("name", .local), ("uri", .local), ("local", .local), ("value", .local), ("parent", .local)]) (ps := ["self", "kind", "name", "uri", "local", "value", "parent"]) (others := []) rfl rfl (fun doc pm cdv ct => bind7 fun v0 v1 v2 v3 v4 v5 v6 => rfl) (by decide) rfl (k := 1) hr ?_
  intro env L A' hE hr'
  refine s_cons ?_
  refine s_setattr ?_
  tlg_ne
  tlg_ne
  refine st_attrNew2 (by lcg_sub) (by lcg_sub) (by simp only [List.cons_append, List.nil_append]; rfl) (by krn_off) (not_elem (by rfl)) (by first | exact PX.sT _ | exact (PX.aN _ _ (by decide)).2) (by simp) ?_
  refine t_cons ?_
  refine s_setattr ?_
  tlg_ne
  tlg_ne
  refine st_attrNew2 (by lcg_sub) (by lcg_sub) (by simp only [List.cons_append, List.nil_append]; rfl) (by krn_off) (not_elem (by rfl)) (by first | exact PX.sT _ | exact (PX.aN _ _ (by decide)).2) (by simp) ?_
  refine t_cons ?_
  refine s_setattr ?_
  tlg_ne
  tlg_ne
  refine st_attrNew2 (by lcg_sub) (by lcg_sub) (by simp only [List.cons_append, List.nil_append]; rfl) (by krn_off) (not_elem (by rfl)) (by first | exact PX.sT _ | exact (PX.aN _ _ (by decide)).2) (by simp) ?_
  refine t_cons ?_
  refine s_setattr ?_
  tlg_ne
  tlg_ne
  refine st_attrNew2 (by lcg_sub) (by lcg_sub) (by simp only [List.cons_append, List.nil_append]; rfl) (by krn_off) (not_elem (by rfl)) (by first | exact PX.sT _ | exact (PX.aN _ _ (by decide)).2) (by simp) ?_
  refine t_cons ?_
  refine s_setattr ?_
  tlg_ne
  tlg_ne
  refine st_attrNew2 (by lcg_sub) (by lcg_sub) (by simp only [List.cons_append, List.nil_append]; rfl) (by krn_off) (not_elem (by rfl)) (by first | exact PX.sT _ | exact (PX.aN _ _ (by decide)).2) (by simp) ?_
  refine t_cons ?_
  refine s_setattr ?_
  tlg_ne
  tlg_ne
  refine st_attrNew2 (by lcg_sub) (by lcg_sub) (by simp only [List.cons_append, List.nil_append]; rfl) (by krn_off) (not_elem (by rfl)) (by first | exact PX.sT _ | exact (PX.aN _ _ (by decide)).2) (by simp) ?_
  refine t_cons ?_
  refine s_setattr ?_
  refine r_list ?_
  refine a_nil ?_
  refine ⟨by decide, fun c => ?_⟩
  tlg_ne
  refine st_attrNew2 (by lcg_sub) (by lcg_sub) (by simp only [List.cons_append, List.nil_append]; rfl) (by krn_off) (not_elem (by rfl)) (by first | exact PX.sT _ | exact (PX.aN _ _ (by decide)).2) (by simp) ?_
  refine t_cons ?_
  refine s_setattr ?_
  refine r_list ?_
  refine a_nil ?_
  refine ⟨by decide, fun a => ?_⟩
  tlg_ne
  refine st_attrNew2 (by lcg_sub) (by lcg_sub) (by simp only [List.cons_append, List.nil_append]; rfl) (by krn_off) (not_elem (by rfl)) (by first | exact PX.sT _ | exact (PX.aN _ _ (by decide)).2) (by simp) ?_
  refine t_cons ?_
  refine s_setattr ?_
  refine r_list ?_
  refine a_nil ?_
  refine ⟨by decide, fun n => ?_⟩
  tlg_ne
  refine st_attrNew2 (by lcg_sub) (by lcg_sub) (by simp only [List.cons_append, List.nil_append]; rfl) (by krn_off) (not_elem (by rfl)) (by first | exact PX.sT _ | exact (PX.aN _ _ (by decide)).2) (by simp) ?_
  refine t_nil ?_
  exact ⟨_, by tb_rel, h c a n⟩
end
theorem fN2 : nm (stAt 2) = "is_beside" := by rfl
theorem fN3 : nm (stAt 3) = "descendants" := by rfl
theorem fN4 : nm (stAt 4) = "ancestors" := by rfl
theorem fN5 : nm (stAt 5) = "siblings_ahead" := by rfl
theorem fN6 : nm (stAt 6) = "siblings_behind" := by rfl
theorem fN7 : nm (stAt 7) = "with_descendants" := by rfl
theorem fN8 : nm (stAt 8) = "following" := by rfl
theorem fN9 : nm (stAt 9) = "preceding" := by rfl
theorem fN10 : nm (stAt 10) = "namespaces_in_scope" := by rfl
theorem fN11 : nm (stAt 11) = "short_axis" := by rfl
theorem fN16 : nm (stAt 16) = "list_above" := by rfl
theorem fN17 : nm (stAt 17) = "remove" := by rfl
theorem fN23 : nm (stAt 23) = "_law_pool" := by rfl
theorem fN24 : nm (stAt 24) = "_law_take" := by rfl
theorem fN25 : nm (stAt 25) = "_law_one" := by rfl
theorem fN26 : nm (stAt 26) = "_law_grown" := by rfl
theorem fN27 : nm (stAt 27) = "_law_loosened" := by rfl
theorem fN28 : nm (stAt 28) = "_law_is_child" := by rfl
theorem fN29 : nm (stAt 29) = "_law_place" := by rfl
theorem fN30 : nm (stAt 30) = "_law_behind" := by rfl
theorem fN31 : nm (stAt 31) = "_law_ahead" := by rfl
theorem fN32 : nm (stAt 32) = "_law_near" := by rfl
theorem fN33 : nm (stAt 33) = "_law_short_right" := by rfl
theorem fN34 : nm (stAt 34) = "_law_is_refused" := by rfl
theorem r_callf {Z : Amb} {A : Around} {env : Env} {l : Led} {X : Value → Shared → Prop} {L : Addr} {names : List (Str × NameKind)} {cells : List (Str × Addr)} (P : PX Z) (i : Nat) (hi : i ∈ [2,3,4,5,6,7,8,9,10,11,16,17,23,24,25,26,27,28,29,30,31,32,33,34]) {x : Str} {np pos : Pos} {e : Expr} {r : List Expr} {Q : AV → Led → Prop} (hE : EnvIs env L names cells) (hk : (x, NameKind.globalImplicit) ∈ names)
    (h : AR Z A env pos (e :: r) l (fun vs l1 => CL Z A (.ref (P.fa i)) vs l1 Q X) X) (hx : nm (stAt i) = x) (hd : (x == ("__debug__" : Str)) = false := by decide)
    (h1 : starEach (e :: r) env = (false, eval e env) :: starEach r env := by rfl) (h2 : (backTo pos (starEach r env)).any (·.1) = false := by rfl) : EV Z A env (.Call (.Name x np) (e :: r) [] pos) l Q X := by
  subst hx
  exact r_call hE hk (P.fdef i hi).2 (DefAt.keep (P.fdef i hi).1) h hd h1 h2
section
variable {Z : Amb} {A : Around} {l : Led} {X : Value → Shared → Prop}
theorem CD.perm {f : Value} {args : List AV} {l l2 : Led} {Q : AV → Led → Prop} (hp : l2.Perm l) (h : CD Z A f args l2 Q X) : CD Z A f args l Q X := fun vs e s R hs => h vs e s R (hs.perm hp)
theorem treeLed_app {P : PX Z} {t : TreeA} {l : Led} : treeLed P t ++ l = (t.x, .inst P.cT t.d) :: (t.d, .idict [("rows", .ref t.r)]) :: (t.r, .list (t.rows.map fun n => .ref n.x)) :: (t.rows.flatMap (nodeLed P) ++ l) := rfl
noncomputable def TreeA.add (t : TreeA) (n : NodeA) : TreeA := { t with rows := t.rows ++ [n] }
noncomputable def newNode (x d c a n : Addr) (kind name uri loc val : Str) (par : Option Nat) : NodeA := ⟨x, d, c, a, n, kind, name, uri, loc, val, par, [], [], []⟩
theorem newRow_ok (P : PX Z) {t : TreeA} {kind name uri loc val : Str} {par : Option Nat} {Q : AV → Led → Prop} (hz : t.rows.length ≤ 50) (hr : Room A 4)
    (h : ∀ x d c a n, Q (.int t.rows.length) (treeLed P (t.add (newNode x d c a n kind name uri loc val par)) ++ l)) :
    CD Z A (.ref (P.ma 1)) [.ref t.x, .str kind, .str name, .str uri, .str loc, .str val, pav par] (treeLed P t ++ l) Q X := by
  rw [treeLed_app]
  generalize htl : t.rows.flatMap (nodeLed P) ++ l = tl
  refine cd_fn (P.mdef 1 (by decide)).1 (m := [("self", some (.ref t.x)), ("kind", some (.str kind)), ("name", some (.str name)), ("uri", some (.str uri)), ("local", some (.str loc)), ("value", some (.str val)), ("parent", some (pav par))]) (names := [("self", .local), ("kind", .local), ("name", .local), ("uri", .local), ("local", .local), ("value", .local), ("parent", .local), ("NodeRow", .globalImplicit), ("len", .globalImplicit)]) (ps := ["self", "kind", "name", "uri", "local", "value", "parent"]) (others := []) rfl rfl (fun doc pm cdv ct => bind7 fun v0 v1 v2 v3 v4 v5 v6 => rfl) (by decide) rfl (k := 3) hr ?_
  intro env L A' hE hr'
  refine s_cons ?_
  refine s_expr (by assumption) ?_
  refine m_append ?_
  refine r_attr ?_
  tlg_ne
  first | refine att_tree (by lcg_sub) (by lcg_sub) rfl ?_ | refine att_node (by lcg_sub) (by lcg_sub) (by first | (with_reducible exact nd_1) | (with_reducible exact nd_2) | (with_reducible exact nd_3) | (with_reducible exact nd_4) | (with_reducible exact nd_5) | (with_reducible exact nd_6) | (with_reducible exact nd_7) | (with_reducible exact nd_8) | (with_reducible exact nd_9)) (by first | rfl | assumption) ?_ | refine AttK.mk _ _ _ _ _ rfl (by lcg_sub) (by lcg_sub) (by lcg_sub) (by first | exact PX.aT _ | exact (PX.aN _ _ (by decide)).1) (by first | rfl | assumption) ?_
  refine ⟨_, rfl, ⟨_, by lcg_sub⟩, ?_⟩
  refine r_call (by assumption) (by lcg_sub) P.mkN.2.2.2.1 P.mkN.2.2.2.2 ?_
  refine a_cons ?_
  tlg_ne
  refine a_cons ?_
  tlg_ne
  refine a_cons ?_
  tlg_ne
  refine a_cons ?_
  tlg_ne
  refine a_cons ?_
  tlg_ne
  refine a_cons ?_
  tlg_ne
  refine a_nil ?_
  refine cl_make P.mkN.1 P.mkN.2.1 P.mkN.2.2.1 (k := 2) hr' fun A2 x d hr2 => nodeInit_ok P hr2 fun c a n => ⟨rfl, ?_⟩
  refine ⟨t.rows.map fun n => .ref n.x, _, by krn_off, by simpa using Nat.le_trans hz (by decide), ?_⟩
  refine t_cons ?_
  refine s_ret ?_
  refine r_binop ?_
  refine rc_len (by assumption) (by assumption) (by lcg_sub) ?_
  refine r_attr ?_
  tlg_ne
  first | refine att_tree (by lcg_sub) (by lcg_sub) rfl ?_ | refine att_node (by lcg_sub) (by lcg_sub) (by first | (with_reducible exact nd_1) | (with_reducible exact nd_2) | (with_reducible exact nd_3) | (with_reducible exact nd_4) | (with_reducible exact nd_5) | (with_reducible exact nd_6) | (with_reducible exact nd_7) | (with_reducible exact nd_8) | (with_reducible exact nd_9)) (by first | rfl | assumption) ?_ | refine AttK.mk _ _ _ _ _ rfl (by lcg_sub) (by lcg_sub) (by lcg_sub) (by first | exact PX.aT _ | exact (PX.aN _ _ (by decide)).1) (by first | rfl | assumption) ?_
  refine b_len (by lcg_sub) (by first | exact len_map_le (len_map_le (by omega)) | exact len_map_le (by omega) | (simp; omega)) ?_
  refine r_int ?_
  refine o_sub ?_
  refine thr ?_
  rw [show ((List.map (fun n => AV.ref n.x) t.rows ++ [AV.ref x]).length : Int) - 1 = t.rows.length by simp]
  refine ⟨_, ?_, h x d c a n⟩
  subst htl
  rw [treeLed_app]
  simp only [TreeA.add, List.map_append, List.map_cons, List.map_nil, List.flatMap_append, List.flatMap_cons, List.flatMap_nil, List.append_nil, List.append_assoc]
  refine Sb.pick (by l_intsC) (Sb.pick (by l_intsC) (Sb.pick (by l_intsC) ?_))
  refine Sb.trans (.ofPerm (List.perm_append_comm_assoc ..)) ?_
  unfold newNode nodeLed
  tb_rel
theorem tree_ok (P : PX Z) {Q : AV → Led → Prop} (hr : Room A 3) (h : ∀ x d r, Q (.ref x) (treeLed P ⟨x, d, r, []⟩ ++ l)) : CL Z A (.ref P.cT) [] l Q X := by
  refine cl_make P.mkT.1 P.mkT.2.1 P.mkT.2.2.1 (k := 2) hr fun A2 x d hr2 => ?_
  refine cd_fn P.dT (m := [("self", some (.ref x))]) (names := [("self", .local)]) (ps := ["self"]) (others := []) rfl rfl (fun doc pm cdv ct => bind1 fun v0 => rfl) (by decide) rfl (k := 1) hr2 ?_
  intro env L A' hE hr'
  refine s_cons ?_
  refine s_setattr ?_
  refine r_list ?_
  refine a_nil ?_
  refine ⟨by decide, fun r => ?_⟩
  tlg_ne
  refine st_attrNew2 (by lcg_sub) (by lcg_sub) (by simp only [List.cons_append, List.nil_append]; rfl) (by krn_off) (not_elem (by rfl)) (by first | exact PX.sT _ | exact (PX.aN _ _ (by decide)).2) (by simp) ?_
  refine t_nil ?_
  exact ⟨_, by tb_rel, rfl, h x d r⟩
theorem inv_sb {env : Env} {it : Addr} {x : Str} {body : List Stmt} {l0 : Led} {Q : AFlow → Led → Prop} (Inv : Nat → Led → Prop) (n : Nat) (hs : Sb l0 l) (h0 : Inv n l0)
    (turn : ∀ J : Nat → Led → Prop, (∀ m l', Inv m l' → J m l') → ∀ n l3, Inv n l3 → TurnK Z A it l3 (Q .next) (storeName env x) (fun l5 => SV Z A env body l5 (Turn J n Q) noX)) : ForK Z A env x body Q it l := by
  refine ⟨fun n => Up (Inv n), n, ⟨l0, hs, h0⟩, ?_⟩
  rintro n l3 ⟨l', hsb, hI⟩
  rcases turn (fun n => Up (Inv n)) (fun m l' h => ⟨l', Sb.refl, h⟩) n l' hI with ⟨l4, h1, h2⟩ | ⟨v, l4, h1, h2⟩
  · exact .inl ⟨l4, fun s Q' X hsat hQ => h1 s Q' X (hsat.subperm hsb) hQ, h2⟩
  · exact .inr ⟨v, l4, fun s Q' X hsat hQ => h1 s Q' X (hsat.subperm hsb) hQ, h2⟩
theorem inv_comp {env : Env} {it D : Addr} {x : Str} {ifs : List Expr} {elt : Expr} {l0 : Led} {Fin : Led → Prop} (Inv : Nat → Led → Prop) (n : Nat) (hs : Sb l0 l) (h0 : Inv n l0)
    (turn : ∀ J : Nat → Led → Prop, (∀ m l', Inv m l' → J m l') → ∀ n l3, Inv n l3 → TurnK Z A it l3 Fin (storeName env x) (fun l5 => IFS Z A env ifs l5 (fun b l6 => (b = true → EV Z A env elt l6 (AppK D (Dot J n)) noX) ∧ (b = false → Dot J n l6)) noX)) : CompK Z A env x ifs elt it D Fin l := by
  refine ⟨fun n => Up (Inv n), n, ⟨l0, hs, h0⟩, ?_⟩
  rintro n l3 ⟨l', hsb, hI⟩
  rcases turn (fun n => Up (Inv n)) (fun m l' h => ⟨l', Sb.refl, h⟩) n l' hI with ⟨l4, h1, h2⟩ | ⟨v, l4, h1, h2⟩
  · exact .inl ⟨l4, fun s Q' X hsat hQ => h1 s Q' X (hsat.subperm hsb) hQ, h2⟩
  · exact .inr ⟨v, l4, fun s Q' X hsat hQ => h1 s Q' X (hsat.subperm hsb) hQ, h2⟩
theorem inv_sb21 {α β : Type} {env : Env} {it : Addr} {x : Str} {body : List Stmt} {Q : AFlow → Led → Prop} (f : α → β → Nat) (w0 : α → β → Prop) (g : α → β → Led) (a0 : α) (b0 : β) (hs : Sb (g a0 b0) l) (h0 : w0 a0 b0)
    (turn : ∀ J : Nat → Led → Prop, (∀ a b, w0 a b → J (f a b) (g a b)) → ∀ a b, w0 a b → TurnK Z A it (g a b) (Q .next) (storeName env x) (fun l5 => SV Z A env body l5 (Turn J (f a b) Q) noX)) : ForK Z A env x body Q it l := by
  refine inv_sb (fun n l => ∃ a b, n = f a b ∧ w0 a b ∧ l = g a b) _ hs ⟨a0, b0, rfl, h0, rfl⟩ ?_
  rintro J hJ n l3 ⟨a, b, rfl, h0, rfl⟩
  exact turn J (fun a b h0 => hJ _ _ ⟨a, b, rfl, h0, rfl⟩) a b h0
theorem inv_sb31 {α β γ : Type} {env : Env} {it : Addr} {x : Str} {body : List Stmt} {Q : AFlow → Led → Prop} (f : α → β → γ → Nat) (w0 : α → β → γ → Prop) (g : α → β → γ → Led) (a0 : α) (b0 : β) (c0 : γ) (hs : Sb (g a0 b0 c0) l) (h0 : w0 a0 b0 c0)
    (turn : ∀ J : Nat → Led → Prop, (∀ a b c, w0 a b c → J (f a b c) (g a b c)) → ∀ a b c, w0 a b c → TurnK Z A it (g a b c) (Q .next) (storeName env x) (fun l5 => SV Z A env body l5 (Turn J (f a b c) Q) noX)) : ForK Z A env x body Q it l := by
  refine inv_sb (fun n l => ∃ a b c, n = f a b c ∧ w0 a b c ∧ l = g a b c) _ hs ⟨a0, b0, c0, rfl, h0, rfl⟩ ?_
  rintro J hJ n l3 ⟨a, b, c, rfl, h0, rfl⟩
  exact turn J (fun a b c h0 => hJ _ _ ⟨a, b, c, rfl, h0, rfl⟩) a b c h0
theorem inv_sb32 {α β γ : Type} {env : Env} {it : Addr} {x : Str} {body : List Stmt} {Q : AFlow → Led → Prop} (f : α → β → γ → Nat) (w0 : α → β → γ → Prop) (w1 : α → β → γ → Prop) (g : α → β → γ → Led) (a0 : α) (b0 : β) (c0 : γ) (hs : Sb (g a0 b0 c0) l) (h0 : w0 a0 b0 c0) (h1 : w1 a0 b0 c0)
    (turn : ∀ J : Nat → Led → Prop, (∀ a b c, w0 a b c → w1 a b c → J (f a b c) (g a b c)) → ∀ a b c, w0 a b c → w1 a b c → TurnK Z A it (g a b c) (Q .next) (storeName env x) (fun l5 => SV Z A env body l5 (Turn J (f a b c) Q) noX)) : ForK Z A env x body Q it l := by
  refine inv_sb (fun n l => ∃ a b c, n = f a b c ∧ w0 a b c ∧ w1 a b c ∧ l = g a b c) _ hs ⟨a0, b0, c0, rfl, h0, h1, rfl⟩ ?_
  rintro J hJ n l3 ⟨a, b, c, rfl, h0, h1, rfl⟩
  exact turn J (fun a b c h0 h1 => hJ _ _ ⟨a, b, c, rfl, h0, h1, rfl⟩) a b c h0 h1
theorem inv_sb43 {α β γ δ : Type} {env : Env} {it : Addr} {x : Str} {body : List Stmt} {Q : AFlow → Led → Prop} (f : α → β → γ → δ → Nat) (w0 : α → β → γ → δ → Prop) (w1 : α → β → γ → δ → Prop) (w2 : α → β → γ → δ → Prop) (g : α → β → γ → δ → Led) (a0 : α) (b0 : β) (c0 : γ) (d0 : δ) (hs : Sb (g a0 b0 c0 d0) l) (h0 : w0 a0 b0 c0 d0) (h1 : w1 a0 b0 c0 d0) (h2 : w2 a0 b0 c0 d0)
    (turn : ∀ J : Nat → Led → Prop, (∀ a b c d, w0 a b c d → w1 a b c d → w2 a b c d → J (f a b c d) (g a b c d)) → ∀ a b c d, w0 a b c d → w1 a b c d → w2 a b c d → TurnK Z A it (g a b c d) (Q .next) (storeName env x) (fun l5 => SV Z A env body l5 (Turn J (f a b c d) Q) noX)) : ForK Z A env x body Q it l := by
  refine inv_sb (fun n l => ∃ a b c d, n = f a b c d ∧ w0 a b c d ∧ w1 a b c d ∧ w2 a b c d ∧ l = g a b c d) _ hs ⟨a0, b0, c0, d0, rfl, h0, h1, h2, rfl⟩ ?_
  rintro J hJ n l3 ⟨a, b, c, d, rfl, h0, h1, h2, rfl⟩
  exact turn J (fun a b c d h0 h1 h2 => hJ _ _ ⟨a, b, c, d, rfl, h0, h1, h2, rfl⟩) a b c d h0 h1 h2
theorem inv_sb52 {α β γ δ ε : Type} {env : Env} {it : Addr} {x : Str} {body : List Stmt} {Q : AFlow → Led → Prop} (f : α → β → γ → δ → ε → Nat) (w0 : α → β → γ → δ → ε → Prop) (w1 : α → β → γ → δ → ε → Prop) (g : α → β → γ → δ → ε → Led) (a0 : α) (b0 : β) (c0 : γ) (d0 : δ) (e0 : ε) (hs : Sb (g a0 b0 c0 d0 e0) l) (h0 : w0 a0 b0 c0 d0 e0) (h1 : w1 a0 b0 c0 d0 e0)
    (turn : ∀ J : Nat → Led → Prop, (∀ a b c d e, w0 a b c d e → w1 a b c d e → J (f a b c d e) (g a b c d e)) → ∀ a b c d e, w0 a b c d e → w1 a b c d e → TurnK Z A it (g a b c d e) (Q .next) (storeName env x) (fun l5 => SV Z A env body l5 (Turn J (f a b c d e) Q) noX)) : ForK Z A env x body Q it l := by
  refine inv_sb (fun n l => ∃ a b c d e, n = f a b c d e ∧ w0 a b c d e ∧ w1 a b c d e ∧ l = g a b c d e) _ hs ⟨a0, b0, c0, d0, e0, rfl, h0, h1, rfl⟩ ?_
  rintro J hJ n l3 ⟨a, b, c, d, e, rfl, h0, h1, rfl⟩
  exact turn J (fun a b c d e h0 h1 => hJ _ _ ⟨a, b, c, d, e, rfl, h0, h1, rfl⟩) a b c d e h0 h1
theorem inv_sb53 {α β γ δ ε : Type} {env : Env} {it : Addr} {x : Str} {body : List Stmt} {Q : AFlow → Led → Prop} (f : α → β → γ → δ → ε → Nat) (w0 : α → β → γ → δ → ε → Prop) (w1 : α → β → γ → δ → ε → Prop) (w2 : α → β → γ → δ → ε → Prop) (g : α → β → γ → δ → ε → Led) (a0 : α) (b0 : β) (c0 : γ) (d0 : δ) (e0 : ε) (hs : Sb (g a0 b0 c0 d0 e0) l) (h0 : w0 a0 b0 c0 d0 e0) (h1 : w1 a0 b0 c0 d0 e0) (h2 : w2 a0 b0 c0 d0 e0)
    (turn : ∀ J : Nat → Led → Prop, (∀ a b c d e, w0 a b c d e → w1 a b c d e → w2 a b c d e → J (f a b c d e) (g a b c d e)) → ∀ a b c d e, w0 a b c d e → w1 a b c d e → w2 a b c d e → TurnK Z A it (g a b c d e) (Q .next) (storeName env x) (fun l5 => SV Z A env body l5 (Turn J (f a b c d e) Q) noX)) : ForK Z A env x body Q it l := by
  refine inv_sb (fun n l => ∃ a b c d e, n = f a b c d e ∧ w0 a b c d e ∧ w1 a b c d e ∧ w2 a b c d e ∧ l = g a b c d e) _ hs ⟨a0, b0, c0, d0, e0, rfl, h0, h1, h2, rfl⟩ ?_
  rintro J hJ n l3 ⟨a, b, c, d, e, rfl, h0, h1, h2, rfl⟩
  exact turn J (fun a b c d e h0 h1 h2 => hJ _ _ ⟨a, b, c, d, e, rfl, h0, h1, h2, rfl⟩) a b c d e h0 h1 h2
theorem inv_comp21 {α β : Type} {env : Env} {it D : Addr} {x : Str} {ifs : List Expr} {elt : Expr} {Fin : Led → Prop} (f : α → β → Nat) (w0 : α → β → Prop) (g : α → β → Led) (a0 : α) (b0 : β) (hs : Sb (g a0 b0) l) (h0 : w0 a0 b0)
    (turn : ∀ J : Nat → Led → Prop, (∀ a b, w0 a b → J (f a b) (g a b)) → ∀ a b, w0 a b → TurnK Z A it (g a b) Fin (storeName env x) (fun l5 => IFS Z A env ifs l5 (fun tt l6 => (tt = true → EV Z A env elt l6 (AppK D (Dot J (f a b))) noX) ∧ (tt = false → Dot J (f a b) l6)) noX)) : CompK Z A env x ifs elt it D Fin l := by
  refine inv_comp (fun n l => ∃ a b, n = f a b ∧ w0 a b ∧ l = g a b) _ hs ⟨a0, b0, rfl, h0, rfl⟩ ?_
  rintro J hJ n l3 ⟨a, b, rfl, h0, rfl⟩
  exact turn J (fun a b h0 => hJ _ _ ⟨a, b, rfl, h0, rfl⟩) a b h0
end
theorem In.app {a l : Led} : In a (a ++ l) := fun p hp => List.mem_append_left _ hp
local macro_rules | `(tactic| lcg_src) => `(tactic| exact In.app)
noncomputable def TreeA.set (t : TreeA) (i : Nat) (n : NodeA) : TreeA := { t with rows := t.rows.set i n }
section
variable {Z : Amb} {A : Around} {l : Led} {X : Value → Shared → Prop}
theorem CL.pull {f : Value} {args : List AV} {l l2 : Led} {Q : AV → Led → Prop} (hp : l2.Perm l) (h : CD Z A f args l2 (fun v => Up (Q v)) X) : CL Z A f args l Q X := by
  refine CL.perm hp (CD.cl fun vs e s R hs hQ hX => h vs e s R hs (fun v s' l' h1 h2 => ?_) hX)
  obtain ⟨l3, h3, h4⟩ := h2
  exact hQ _ _ _ (h1.subperm h3) h4
theorem CD.pull {f : Value} {args : List AV} {l l2 : Led} {Q : AV → Led → Prop} (hp : l2.Perm l) (h : CD Z A f args l2 (fun v => Up (Q v)) X) : CD Z A f args l Q X := by
  refine CD.perm hp (fun vs e s R hs hQ hX => h vs e s R hs (fun v s' l' h1 h2 => ?_) hX)
  obtain ⟨l3, h3, h4⟩ := h2
  exact hQ _ _ _ (h1.subperm h3) h4
theorem tree_split {P : PX Z} {t : TreeA} {i : Nat} {nd : NodeA} (hi : t.rows[i]? = some nd) :
    ∃ rest, (treeLed P t).Perm (nodeLed P nd ++ ((t.x, .inst P.cT t.d) :: (t.d, .idict [("rows", .ref t.r)]) :: (t.r, .list (t.rows.map fun n => .ref n.x)) :: rest)) ∧
      ∀ nd' : NodeA, nd'.x = nd.x → (treeLed P (t.set i nd')).Perm (nodeLed P nd' ++ ((t.x, .inst P.cT t.d) :: (t.d, .idict [("rows", .ref t.r)]) :: (t.r, .list (t.rows.map fun n => .ref n.x)) :: rest)) := by
  have hlen : i < t.rows.length := (List.getElem?_eq_some_iff.mp hi).1
  have e : t.rows = t.rows.take i ++ nd :: t.rows.drop (i + 1) := by
    have : t.rows[i] = nd := (List.getElem?_eq_some_iff.mp hi).2
    rw [← this, List.getElem_cons_drop, List.take_append_drop]
  have key : ∀ (as bs : List NodeA) (n : NodeA) (a b c : Addr × AObj), (a :: b :: c :: ((as ++ n :: bs).flatMap (nodeLed P))).Perm (nodeLed P n ++ (a :: b :: c :: ((as ++ bs).flatMap (nodeLed P)))) := by
    intro as bs n a b c
    rw [List.flatMap_append, List.flatMap_cons, List.flatMap_append]
    have h1 : (List.flatMap (nodeLed P) as ++ (nodeLed P n ++ List.flatMap (nodeLed P) bs)).Perm (nodeLed P n ++ (List.flatMap (nodeLed P) as ++ List.flatMap (nodeLed P) bs)) := List.perm_append_comm_assoc ..
    refine ((h1.cons c).cons b |>.cons a).trans ?_
    refine .trans ?_ (List.perm_middle.symm)
    refine List.Perm.cons a ?_
    refine .trans ?_ (List.perm_middle.symm)
    refine List.Perm.cons b ?_
    exact List.perm_middle.symm
  refine ⟨(t.rows.take i ++ t.rows.drop (i + 1)).flatMap (nodeLed P), ?_, fun nd' hx => ?_⟩
  · have := key (t.rows.take i) (t.rows.drop (i + 1)) nd (t.x, .inst P.cT t.d) (t.d, .idict [("rows", .ref t.r)]) (t.r, .list (t.rows.map fun n => .ref n.x))
    rw [← e] at this
    exact this
  · have := key (t.rows.take i) (t.rows.drop (i + 1)) nd' (t.x, .inst P.cT t.d) (t.d, .idict [("rows", .ref t.r)]) (t.r, .list (t.rows.map fun n => .ref n.x))
    have e2 : t.rows.take i ++ nd' :: t.rows.drop (i + 1) = t.rows.set i nd' := by
      rw [List.set_eq_take_append_cons_drop, if_pos hlen]
    rw [e2] at this
    have e3 : (t.rows.set i nd').map (fun n => AV.ref n.x) = t.rows.map fun n => AV.ref n.x := by
      rw [List.map_set, hx]
      apply List.ext_getElem?
      intro j
      rw [List.getElem?_set]
      split
      · rename_i hj
        subst hj
        have := (List.getElem?_eq_some_iff.mp hi).2
        simp [hlen, this]
      · rfl
    unfold treeLed TreeA.set
    rw [e3]
    exact this
theorem split_Sb {a b M l : Led} {fr : Addr × AObj} (e : a.Perm (b ++ M)) : Sb (fr :: (b ++ (M ++ l))) (a ++ fr :: l) := by
  refine .ofPerm (.trans ?_ List.perm_middle.symm)
  refine List.Perm.cons _ ?_
  rw [← List.append_assoc]
  exact e.symm.append_right _
theorem join_Sb {a b M l : Led} (e : a.Perm (b ++ M)) : Sb (a ++ l) (b ++ (M ++ l)) := by
  refine .ofPerm ?_
  rw [← List.append_assoc]
  exact e.append_right _
theorem rowRef {t : TreeA} {i : Nat} {nd : NodeA} (h : t.rows[i]? = some nd) : (t.rows.map fun n => AV.ref n.x)[(i : Int).toNat]? = some (.ref nd.x) := by
  rw [Int.toNat_natCast, List.getElem?_map, h]; rfl
theorem inl_snoc {xs : List Nat} {k : Nat} : inl (xs ++ [k]) = inl xs ++ [.int k] := by simp
noncomputable def NodeA.addCh (nd : NodeA) (k : Nat) : NodeA := { nd with ch := nd.ch ++ [k] }
noncomputable def NodeA.addAt (nd : NodeA) (k : Nat) : NodeA := { nd with at' := nd.at' ++ [k] }
noncomputable def NodeA.addNs (nd : NodeA) (k : Nat) : NodeA := { nd with ns := nd.ns ++ [k] }
theorem isNone_pav {p : Option Nat} : (pav p).isNone = p.isNone := by cases p <;> rfl
theorem plain_pav {p : Option Nat} : (pav p).plain = true := by cases p <;> rfl
theorem newRoot_ok (P : PX Z) {t : TreeA} {Q : AV → Led → Prop} (hz : t.rows.length ≤ 50) (hr : Room A 5)
    (h : ∀ x d c a n, Q (.int t.rows.length) (treeLed P (t.add (newNode x d c a n "root" "" "" "" "" none)) ++ l)) : CD Z A (.ref (P.ma 3)) [.ref t.x] (treeLed P t ++ l) Q X := by
  have m1 := tree_in1 (P := P) (t := t) (l := treeLed P t ++ l) In.app
  have m2 := tree_in2 (P := P) (t := t) (l := treeLed P t ++ l) In.app
  have m3 := tree_in3 (P := P) (t := t) (l := treeLed P t ++ l) In.app
  refine cd_fn (P.mdef 3 (by decide)).1 (m := [("self", some (.ref t.x))]) (names := [("self", .local)]) (ps := ["self"]) (others := []) rfl rfl (fun doc pm cdv ct => bind1 fun v0 => rfl) (by decide) rfl (k := 4) hr ?_
  intro env L A' hE hr'
  refine s_cons ?_
  refine s_ret ?_
  refine m_own ?_
  tlg_ne
  refine met_t 1 (by decide) (by lcg_sub) (by lcg_sub) (by decide) ?_ mN1
  refine a_cons ?_
  refine r_str ?_
  refine a_cons ?_
  refine r_str ?_
  refine a_cons ?_
  refine r_str ?_
  refine a_cons ?_
  refine r_str ?_
  refine a_cons ?_
  refine r_str ?_
  refine a_cons ?_
  refine r_none ?_
  refine a_nil ?_
  refine CL.pull (l2 := treeLed P t ++ ((L, _) :: l)) List.perm_middle (newRow_ok P (par := none) hz (hr'.le (by decide)) (fun x d c a n => ⟨(L, _) :: (treeLed P _ ++ l), Sb.ofPerm List.perm_middle.symm, ?_⟩))
  refine thr ?_
  exact Up.drop (Up.here (h x d c a n))
theorem addChild_ok (P : PX Z) {t : TreeA} {kind name uri loc val : Str} {p : Nat} {nd : NodeA} {Q : AV → Led → Prop} (hi : t.rows[p]? = some nd) (hk : nd.kind = "root" ∨ nd.kind = "element") (hz : t.rows.length ≤ 50) (hc : nd.ch.length ≤ 50) (hr : Room A 5)
    (h : ∀ x d c a n, Q (.int t.rows.length) (treeLed P ((t.add (newNode x d c a n kind name uri loc val (some p))).set p (nd.addCh t.rows.length)) ++ l)) :
    CD Z A (.ref (P.ma 4)) [.ref t.x, .int p, .str kind, .str name, .str uri, .str loc, .str val] (treeLed P t ++ l) Q X := by
  have m1 := tree_in1 (P := P) (t := t) (l := treeLed P t ++ l) In.app
  have m2 := tree_in2 (P := P) (t := t) (l := treeLed P t ++ l) In.app
  have m3 := tree_in3 (P := P) (t := t) (l := treeLed P t ++ l) In.app
  have n1 := node_in1 (P := P) (t := t) (l := treeLed P t ++ l) In.app (List.mem_of_getElem? hi)
  have n2 := node_in2 (P := P) (t := t) (l := treeLed P t ++ l) In.app (List.mem_of_getElem? hi)
  have n3 := node_in3 (P := P) (t := t) (l := treeLed P t ++ l) In.app (List.mem_of_getElem? hi)
  have n4 := node_in4 (P := P) (t := t) (l := treeLed P t ++ l) In.app (List.mem_of_getElem? hi)
  have n5 := node_in5 (P := P) (t := t) (l := treeLed P t ++ l) In.app (List.mem_of_getElem? hi)
  refine cd_fn (P.mdef 4 (by decide)).1 (m := [("self", some (.ref t.x)), ("parent", some (.int p)), ("kind", some (.str kind)), ("name", some (.str name)), ("uri", some (.str uri)), ("local", some (.str loc)), ("value", some (.str val)), ("node", none)]) (names := [("self", .local), ("parent", .local), ("kind", .local), ("name", .local), ("uri", .local), ("local", .local), ("value", .local), ("node", .local), ("PARENTS", .globalImplicit), ("TreeFault", .globalImplicit)]) (ps := ["self", "parent", "kind", "name", "uri", "local", "value"]) (others := ["node"]) rfl rfl (fun doc pm cdv ct => bind7 fun v0 v1 v2 v3 v4 v5 v6 => rfl) (by decide) rfl (k := 4) hr ?_
  intro env L A' hE hr'
  refine s_cons ?_
  refine s_if ?_
  refine t_and2 ?_
  refine t_cmp ?_
  tlg_ne
  refine r_none ?_
  refine c_isnot rfl (br_t rfl ?_)
  refine t_cmp ?_
  refine r_attr ?_
  refine m_own ?_
  tlg_ne
  refine met_t 2 (by decide) (by lcg_sub) (by lcg_sub) (by decide) ?_ mN2
  refine a_cons ?_
  tlg_ne
  refine a_nil ?_
  refine CD.cl (row_ok P (by lcg_src) hi (by omega) (hr'.le (by decide)) ?_)
  first | refine att_tree (by lcg_sub) (by lcg_sub) rfl ?_ | refine att_node (by lcg_sub) (by lcg_sub) (by first | (with_reducible exact nd_1) | (with_reducible exact nd_2) | (with_reducible exact nd_3) | (with_reducible exact nd_4) | (with_reducible exact nd_5) | (with_reducible exact nd_6) | (with_reducible exact nd_7) | (with_reducible exact nd_8) | (with_reducible exact nd_9)) (by first | rfl | assumption) ?_ | refine AttK.mk _ _ _ _ _ rfl (by lcg_sub) (by lcg_sub) (by lcg_sub) (by first | exact PX.aT _ | exact (PX.aN _ _ (by decide)).1) (by first | rfl | assumption) ?_
  refine r_glob (by assumption) (by lcg_sub) P.gP ?_
  obtain ⟨vs, n, dd, sl, k1, k2⟩ := P.kP
  refine c_notinstrK k1 k2 (by simp) (br_f ?_ ?_)
  · rcases hk with e | e <;> rw [e] <;> rfl
  refine s_nil ?_
  refine t_cons ?_
  refine s_assign ?_
  refine m_own ?_
  tlg_ne
  refine met_t 1 (by decide) (by lcg_sub) (by lcg_sub) (by decide) ?_ mN1
  refine a_cons ?_
  tlg_ne
  refine a_cons ?_
  tlg_ne
  refine a_cons ?_
  tlg_ne
  refine a_cons ?_
  tlg_ne
  refine a_cons ?_
  tlg_ne
  refine a_cons ?_
  tlg_ne
  refine a_nil ?_
  have hlen : p < t.rows.length := (List.getElem?_eq_some_iff.mp hi).1
  refine CL.pull (l2 := treeLed P t ++ ((L, _) :: l)) List.perm_middle (newRow_ok P (par := some p) hz (hr'.le (by decide)) (fun x d c a n => ?_))
  have hi2 : (t.add (newNode x d c a n kind name uri loc val (some p))).rows[p]? = some nd := by
    show (t.rows ++ [_])[p]? = _
    rw [List.getElem?_append_left hlen, hi]
  obtain ⟨rest, e1, e2⟩ := tree_split (P := P) hi2
  refine ⟨_, split_Sb e1, ?_⟩
  simp only [nodeLed, TreeA.add, List.cons_append, List.nil_append]
  isplit
  refine t_cons ?_
  refine s_if ?_
  refine t_cmp ?_
  tlg_ne
  refine r_none ?_
  refine c_isnot rfl (br_t rfl ?_)
  refine s_cons ?_
  refine s_expr (by assumption) ?_
  refine m_append ?_
  refine r_attr ?_
  refine r_sub ?_
  refine r_attr ?_
  tlg_ne
  first | refine att_tree (by lcg_sub) (by lcg_sub) rfl ?_ | refine att_node (by lcg_sub) (by lcg_sub) (by first | (with_reducible exact nd_1) | (with_reducible exact nd_2) | (with_reducible exact nd_3) | (with_reducible exact nd_4) | (with_reducible exact nd_5) | (with_reducible exact nd_6) | (with_reducible exact nd_7) | (with_reducible exact nd_8) | (with_reducible exact nd_9)) (by first | rfl | assumption) ?_ | refine AttK.mk _ _ _ _ _ rfl (by lcg_sub) (by lcg_sub) (by lcg_sub) (by first | exact PX.aT _ | exact (PX.aN _ _ (by decide)).1) (by first | rfl | assumption) ?_
  tlg_ne
  refine i_list (v := .ref nd.x) (by lcg_sub) (by omega) (by omega) (by exact rowRef hi2) ?_
  first | refine att_tree (by lcg_sub) (by lcg_sub) rfl ?_ | refine att_node (by lcg_sub) (by lcg_sub) (by first | (with_reducible exact nd_1) | (with_reducible exact nd_2) | (with_reducible exact nd_3) | (with_reducible exact nd_4) | (with_reducible exact nd_5) | (with_reducible exact nd_6) | (with_reducible exact nd_7) | (with_reducible exact nd_8) | (with_reducible exact nd_9)) (by first | rfl | assumption) ?_ | refine AttK.mk _ _ _ _ _ rfl (by lcg_sub) (by lcg_sub) (by lcg_sub) (by first | exact PX.aT _ | exact (PX.aN _ _ (by decide)).1) (by first | rfl | assumption) ?_
  refine ⟨_, rfl, ⟨_, by lcg_sub⟩, ?_⟩
  tlg_ne
  refine ⟨inl nd.ch, _, by krn_off, by first | exact len_map_le (len_map_le (by omega)) | exact len_map_le (by omega) | (simp; omega), ?_⟩
  refine t_nil ?_
  refine t_cons ?_
  refine s_ret ?_
  tlg_ne
  refine thr ?_
  refine ⟨_, ?_, h x d c a n⟩
  have e3 := e2 (nd.addCh t.rows.length) rfl
  refine Sb.trans (join_Sb e3) ?_
  simp only [nodeLed, NodeA.addCh, TreeA.add, inl_snoc, List.cons_append, List.nil_append]
  tb_rel
end
noncomputable def TreeA.mod (t : TreeA) (i : Nat) (f : NodeA → NodeA) : TreeA := { t with rows := t.rows.modify i f }
theorem set_eq_mod {t : TreeA} {i : Nat} {nd : NodeA} {f : NodeA → NodeA} (h : t.rows[i]? = some nd) : t.set i (f nd) = t.mod i f := by
  unfold TreeA.set TreeA.mod
  congr 1
  apply List.ext_getElem?
  intro j
  have hlen : i < t.rows.length := (List.getElem?_eq_some_iff.mp h).1
  rw [List.getElem?_set, List.getElem?_modify]
  by_cases e : i = j
  · subst e
    have := (List.getElem?_eq_some_iff.mp h).2
    simp [hlen, this]
  · simp [e]
noncomputable def TreeA.child (t : TreeA) (n : NodeA) : TreeA := match n.par with
  | none => t.add n
  | some p => (t.add n).mod p (·.addCh t.rows.length)
noncomputable def canHold (nd : NodeA) : Prop := nd.kind = "root" ∨ nd.kind = "element"
section
variable {Z : Amb} {A : Around} {l : Led} {X : Value → Shared → Prop}
theorem add_get {t : TreeA} {n nd : NodeA} {p : Nat} (hi : t.rows[p]? = some nd) : (t.add n).rows[p]? = some nd := by
  show (t.rows ++ [_])[p]? = _
  rw [List.getElem?_append_left (List.getElem?_eq_some_iff.mp hi).1, hi]
theorem addChild2_ok (P : PX Z) {t : TreeA} {kind name uri loc val : Str} {par : Option Nat} {Q : AV → Led → Prop} (hp : ∀ p, par = some p → ∃ nd, t.rows[p]? = some nd ∧ canHold nd ∧ nd.ch.length ≤ 50) (hz : t.rows.length ≤ 50) (hr : Room A 5)
    (h : ∀ x d c a n, Q (.int t.rows.length) (treeLed P (t.child (newNode x d c a n kind name uri loc val par)) ++ l)) :
    CD Z A (.ref (P.ma 4)) [.ref t.x, pav par, .str kind, .str name, .str uri, .str loc, .str val] (treeLed P t ++ l) Q X := by
  cases par with
  | some p =>
    obtain ⟨nd, hi, hk, hc⟩ := hp p rfl
    refine addChild_ok P hi hk hz hc hr fun x d c a n => ?_
    have := h x d c a n
    rw [set_eq_mod (add_get hi) (f := (·.addCh t.rows.length))]
    exact this
  | none =>
    have m1 := tree_in1 (P := P) (t := t) (l := treeLed P t ++ l) In.app
    have m2 := tree_in2 (P := P) (t := t) (l := treeLed P t ++ l) In.app
    have m3 := tree_in3 (P := P) (t := t) (l := treeLed P t ++ l) In.app
    refine cd_fn (P.mdef 4 (by decide)).1 (m := [("self", some (.ref t.x)), ("parent", some (pav none)), ("kind", some (.str kind)), ("name", some (.str name)), ("uri", some (.str uri)), ("local", some (.str loc)), ("value", some (.str val)), ("node", none)]) (names := [("self", .local), ("parent", .local), ("kind", .local), ("name", .local), ("uri", .local), ("local", .local), ("value", .local), ("node", .local), ("PARENTS", .globalImplicit), ("TreeFault", .globalImplicit)]) (ps := ["self", "parent", "kind", "name", "uri", "local", "value"]) (others := ["node"]) rfl rfl (fun doc pm cdv ct => bind7 fun v0 v1 v2 v3 v4 v5 v6 => rfl) (by decide) rfl (k := 4) hr ?_
    intro env L A' hE hr'
    refine s_cons ?_
    refine s_if ?_
    refine t_and2 ?_
    refine t_cmp ?_
    tlg_ne
    refine r_none ?_
    refine c_isnot rfl (br_f rfl (br_f rfl ?_))
    refine s_nil ?_
    refine t_cons ?_
    refine s_assign ?_
    refine m_own ?_
    tlg_ne
    refine met_t 1 (by decide) (by lcg_sub) (by lcg_sub) (by decide) ?_ mN1
    refine a_cons ?_
    tlg_ne
    refine a_cons ?_
    tlg_ne
    refine a_cons ?_
    tlg_ne
    refine a_cons ?_
    tlg_ne
    refine a_cons ?_
    tlg_ne
    refine a_cons ?_
    tlg_ne
    refine a_nil ?_
    refine CL.pull (l2 := treeLed P t ++ ((L, _) :: l)) List.perm_middle (newRow_ok P (par := none) hz (hr'.le (by decide)) (fun x d c a n => ⟨(L, _) :: (treeLed P _ ++ l), Sb.ofPerm List.perm_middle.symm, ?_⟩))
    isplit
    refine t_cons ?_
    refine s_if ?_
    refine t_cmp ?_
    tlg_ne
    refine r_none ?_
    refine c_isnot rfl (br_f rfl ?_)
    refine s_nil ?_
    refine t_cons ?_
    refine s_ret ?_
    tlg_ne
    refine thr ?_
    exact Up.drop (Up.here (h x d c a n))
theorem addElement_ok (P : PX Z) {t : TreeA} {name uri loc : Str} {par : Option Nat} {Q : AV → Led → Prop} (hp : ∀ p, par = some p → ∃ nd, t.rows[p]? = some nd ∧ canHold nd ∧ nd.ch.length ≤ 50) (hz : t.rows.length ≤ 50) (hr : Room A 6)
    (h : ∀ x d c a n, Q (.int t.rows.length) (treeLed P (t.child (newNode x d c a n "element" name uri loc "" par)) ++ l)) :
    CD Z A (.ref (P.ma 5)) [.ref t.x, pav par, .str name, .str uri, .str loc] (treeLed P t ++ l) Q X := by
  have m1 := tree_in1 (P := P) (t := t) (l := treeLed P t ++ l) In.app
  have m2 := tree_in2 (P := P) (t := t) (l := treeLed P t ++ l) In.app
  have m3 := tree_in3 (P := P) (t := t) (l := treeLed P t ++ l) In.app
  refine cd_fn (P.mdef 5 (by decide)).1 (m := [("self", some (.ref t.x)), ("parent", some (pav par)), ("name", some (.str name)), ("uri", some (.str uri)), ("local", some (.str loc))]) (names := [("self", .local), ("parent", .local), ("name", .local), ("uri", .local), ("local", .local)]) (ps := ["self", "parent", "name", "uri", "local"]) (others := []) rfl rfl (fun doc pm cdv ct => bind5 fun v0 v1 v2 v3 v4 => rfl) (by decide) rfl (k := 5) hr ?_
  intro env L A' hE hr'
  refine s_cons ?_
  refine s_ret ?_
  refine m_own ?_
  tlg_ne
  refine met_t 4 (by decide) (by lcg_sub) (by lcg_sub) (by decide) ?_ mN4
  refine a_cons ?_
  tlg_ne
  refine a_cons ?_
  refine r_str ?_
  refine a_cons ?_
  tlg_ne
  refine a_cons ?_
  tlg_ne
  refine a_cons ?_
  tlg_ne
  refine a_cons ?_
  refine r_str ?_
  refine a_nil ?_
  refine CL.pull (l2 := treeLed P t ++ ((L, _) :: l)) List.perm_middle (addChild2_ok P hp hz hr' (fun x d c a n => ⟨(L, _) :: (treeLed P _ ++ l), Sb.ofPerm List.perm_middle.symm, ?_⟩))
  refine thr ?_
  exact Up.drop (Up.here (h x d c a n))
theorem addText_ok (P : PX Z) {t : TreeA} {val : Str} {par : Option Nat} {Q : AV → Led → Prop} (hp : ∀ p, par = some p → ∃ nd, t.rows[p]? = some nd ∧ canHold nd ∧ nd.ch.length ≤ 50) (hz : t.rows.length ≤ 50) (hr : Room A 6)
    (h : ∀ x d c a n, Q (.int t.rows.length) (treeLed P (t.child (newNode x d c a n "text" "" "" "" val par)) ++ l)) :
    CD Z A (.ref (P.ma 6)) [.ref t.x, pav par, .str val] (treeLed P t ++ l) Q X := by
  have m1 := tree_in1 (P := P) (t := t) (l := treeLed P t ++ l) In.app
  have m2 := tree_in2 (P := P) (t := t) (l := treeLed P t ++ l) In.app
  have m3 := tree_in3 (P := P) (t := t) (l := treeLed P t ++ l) In.app
  refine cd_fn (P.mdef 6 (by decide)).1 (m := [("self", some (.ref t.x)), ("parent", some (pav par)), ("value", some (.str val))]) (names := [("self", .local), ("parent", .local), ("value", .local)]) (ps := ["self", "parent", "value"]) (others := []) rfl rfl (fun doc pm cdv ct => bind3 fun v0 v1 v2 => rfl) (by decide) rfl (k := 5) hr ?_
  intro env L A' hE hr'
  refine s_cons ?_
  refine s_ret ?_
  refine m_own ?_
  tlg_ne
  refine met_t 4 (by decide) (by lcg_sub) (by lcg_sub) (by decide) ?_ mN4
  refine a_cons ?_
  tlg_ne
  refine a_cons ?_
  refine r_str ?_
  refine a_cons ?_
  refine r_str ?_
  refine a_cons ?_
  refine r_str ?_
  refine a_cons ?_
  refine r_str ?_
  refine a_cons ?_
  tlg_ne
  refine a_nil ?_
  refine CL.pull (l2 := treeLed P t ++ ((L, _) :: l)) List.perm_middle (addChild2_ok P hp hz hr' (fun x d c a n => ⟨(L, _) :: (treeLed P _ ++ l), Sb.ofPerm List.perm_middle.symm, ?_⟩))
  refine thr ?_
  exact Up.drop (Up.here (h x d c a n))
theorem addComment_ok (P : PX Z) {t : TreeA} {val : Str} {par : Option Nat} {Q : AV → Led → Prop} (hp : ∀ p, par = some p → ∃ nd, t.rows[p]? = some nd ∧ canHold nd ∧ nd.ch.length ≤ 50) (hz : t.rows.length ≤ 50) (hr : Room A 6)
    (h : ∀ x d c a n, Q (.int t.rows.length) (treeLed P (t.child (newNode x d c a n "comment" "" "" "" val par)) ++ l)) :
    CD Z A (.ref (P.ma 7)) [.ref t.x, pav par, .str val] (treeLed P t ++ l) Q X := by
  have m1 := tree_in1 (P := P) (t := t) (l := treeLed P t ++ l) In.app
  have m2 := tree_in2 (P := P) (t := t) (l := treeLed P t ++ l) In.app
  have m3 := tree_in3 (P := P) (t := t) (l := treeLed P t ++ l) In.app
  refine cd_fn (P.mdef 7 (by decide)).1 (m := [("self", some (.ref t.x)), ("parent", some (pav par)), ("value", some (.str val))]) (names := [("self", .local), ("parent", .local), ("value", .local)]) (ps := ["self", "parent", "value"]) (others := []) rfl rfl (fun doc pm cdv ct => bind3 fun v0 v1 v2 => rfl) (by decide) rfl (k := 5) hr ?_
  intro env L A' hE hr'
  refine s_cons ?_
  refine s_ret ?_
  refine m_own ?_
  tlg_ne
  refine met_t 4 (by decide) (by lcg_sub) (by lcg_sub) (by decide) ?_ mN4
  refine a_cons ?_
  tlg_ne
  refine a_cons ?_
  refine r_str ?_
  refine a_cons ?_
  refine r_str ?_
  refine a_cons ?_
  refine r_str ?_
  refine a_cons ?_
  refine r_str ?_
  refine a_cons ?_
  tlg_ne
  refine a_nil ?_
  refine CL.pull (l2 := treeLed P t ++ ((L, _) :: l)) List.perm_middle (addChild2_ok P hp hz hr' (fun x d c a n => ⟨(L, _) :: (treeLed P _ ++ l), Sb.ofPerm List.perm_middle.symm, ?_⟩))
  refine thr ?_
  exact Up.drop (Up.here (h x d c a n))
theorem addInstruction_ok (P : PX Z) {t : TreeA} {name val : Str} {par : Option Nat} {Q : AV → Led → Prop} (hp : ∀ p, par = some p → ∃ nd, t.rows[p]? = some nd ∧ canHold nd ∧ nd.ch.length ≤ 50) (hz : t.rows.length ≤ 50) (hr : Room A 6)
    (h : ∀ x d c a n, Q (.int t.rows.length) (treeLed P (t.child (newNode x d c a n "instruction" name "" name val par)) ++ l)) :
    CD Z A (.ref (P.ma 8)) [.ref t.x, pav par, .str name, .str val] (treeLed P t ++ l) Q X := by
  have m1 := tree_in1 (P := P) (t := t) (l := treeLed P t ++ l) In.app
  have m2 := tree_in2 (P := P) (t := t) (l := treeLed P t ++ l) In.app
  have m3 := tree_in3 (P := P) (t := t) (l := treeLed P t ++ l) In.app
  refine cd_fn (P.mdef 8 (by decide)).1 (m := [("self", some (.ref t.x)), ("parent", some (pav par)), ("target", some (.str name)), ("data", some (.str val))]) (names := [("self", .local), ("parent", .local), ("target", .local), ("data", .local)]) (ps := ["self", "parent", "target", "data"]) (others := []) rfl rfl (fun doc pm cdv ct => bind4 fun v0 v1 v2 v3 => rfl) (by decide) rfl (k := 5) hr ?_
  intro env L A' hE hr'
  refine s_cons ?_
  refine s_ret ?_
  refine m_own ?_
  tlg_ne
  refine met_t 4 (by decide) (by lcg_sub) (by lcg_sub) (by decide) ?_ mN4
  refine a_cons ?_
  tlg_ne
  refine a_cons ?_
  refine r_str ?_
  refine a_cons ?_
  tlg_ne
  refine a_cons ?_
  refine r_str ?_
  refine a_cons ?_
  tlg_ne
  refine a_cons ?_
  tlg_ne
  refine a_nil ?_
  refine CL.pull (l2 := treeLed P t ++ ((L, _) :: l)) List.perm_middle (addChild2_ok P hp hz hr' (fun x d c a n => ⟨(L, _) :: (treeLed P _ ++ l), Sb.ofPerm List.perm_middle.symm, ?_⟩))
  refine thr ?_
  exact Up.drop (Up.here (h x d c a n))
theorem elementRow_ok (P : PX Z) {t : TreeA} {i : Nat} {nd : NodeA} {Q : AV → Led → Prop} (hT : In (treeLed P t) l) (hi : t.rows[i]? = some nd) (hk : nd.kind = "element") (hz : t.rows.length ≤ 50) (hr : Room A 4) (h : Q (.ref nd.x) l) :
    CD Z A (.ref (P.ma 9)) [.ref t.x, .int i] l Q X := by
  have m1 := tree_in1 hT
  have m2 := tree_in2 hT
  have m3 := tree_in3 hT
  have n1 := node_in1 hT (List.mem_of_getElem? hi)
  have n2 := node_in2 hT (List.mem_of_getElem? hi)
  have n3 := node_in3 hT (List.mem_of_getElem? hi)
  have n4 := node_in4 hT (List.mem_of_getElem? hi)
  have n5 := node_in5 hT (List.mem_of_getElem? hi)
  refine cd_fn (P.mdef 9 (by decide)).1 (m := [("self", some (.ref t.x)), ("element", some (.int i)), ("row", none)]) (names := [("self", .local), ("element", .local), ("row", .local), ("TreeFault", .globalImplicit)]) (ps := ["self", "element"]) (others := ["row"]) rfl rfl (fun doc pm cdv ct => bind2 fun v0 v1 => rfl) (by decide) rfl (k := 3) hr ?_
  intro env L A' hE hr'
  refine s_cons ?_
  refine s_assign ?_
  refine m_own ?_
  tlg_ne
  refine met_t 2 (by decide) (by lcg_sub) (by lcg_sub) (by decide) ?_ mN2
  refine a_cons ?_
  tlg_ne
  refine a_nil ?_
  refine CD.cl (row_ok P (by lcg_src) hi (by omega) (hr'.le (by decide)) ?_)
  isplit
  refine t_cons ?_
  refine s_if ?_
  refine t_cmp ?_
  refine r_attr ?_
  tlg_ne
  first | refine att_tree (by lcg_sub) (by lcg_sub) rfl ?_ | refine att_node (by lcg_sub) (by lcg_sub) (by first | (with_reducible exact nd_1) | (with_reducible exact nd_2) | (with_reducible exact nd_3) | (with_reducible exact nd_4) | (with_reducible exact nd_5) | (with_reducible exact nd_6) | (with_reducible exact nd_7) | (with_reducible exact nd_8) | (with_reducible exact nd_9)) (by first | rfl | assumption) ?_ | refine AttK.mk _ _ _ _ _ rfl (by lcg_sub) (by lcg_sub) (by lcg_sub) (by first | exact PX.aT _ | exact (PX.aN _ _ (by decide)).1) (by first | rfl | assumption) ?_
  refine r_str ?_
  refine c_nes (br_f (by rw [hk]; rfl) ?_)
  refine s_nil ?_
  refine t_cons ?_
  refine s_ret ?_
  tlg_ne
  refine thr ?_
  exact Up.drop (Up.here h)
end
section
variable {Z : Amb} {A : Around} {l : Led} {X : Value → Shared → Prop}
theorem setAttribute_ok (P : PX Z) {t : TreeA} {name loc val : Str} {e : Nat} {nd : NodeA} {Q : AV → Led → Prop} (hi : t.rows[e]? = some nd) (hk : nd.kind = "element") (hz : t.rows.length ≤ 50) (hc : nd.at'.length ≤ 50)
    (hno : ∀ k ∈ nd.at', ∃ kn, t.rows[k]? = some kn ∧ kn.loc ≠ loc) (hr : Room A 6)
    (h : ∀ x d c a n, Q (.int t.rows.length) (treeLed P ((t.add (newNode x d c a n "attribute" name "" loc val (some e))).mod e (·.addAt t.rows.length)) ++ l)) :
    CD Z A (.ref (P.ma 10)) [.ref t.x, .int e, .str name, .str "", .str loc, .str val] (treeLed P t ++ l) Q X := by
  have hT : In (treeLed P t) (treeLed P t ++ l) := In.app
  have m1 := tree_in1 hT
  have m2 := tree_in2 hT
  have m3 := tree_in3 hT
  have n1 := node_in1 hT (List.mem_of_getElem? hi)
  have n2 := node_in2 hT (List.mem_of_getElem? hi)
  have n3 := node_in3 hT (List.mem_of_getElem? hi)
  have n4 := node_in4 hT (List.mem_of_getElem? hi)
  have n5 := node_in5 hT (List.mem_of_getElem? hi)
  refine cd_fn (P.mdef 10 (by decide)).1 (m := [("self", some (.ref t.x)), ("element", some (.int e)), ("name", some (.str name)), ("uri", some (.str "")), ("local", some (.str loc)), ("value", some (.str val)), ("row", none), ("node", none), ("known", none)]) (names := [("self", .local), ("element", .local), ("name", .local), ("uri", .local), ("local", .local), ("value", .local), ("row", .local), ("node", .local), ("known", .local)]) (ps := ["self", "element", "name", "uri", "local", "value"]) (others := ["row", "node", "known"]) rfl rfl (fun doc pm cdv ct => bind6 fun v0 v1 v2 v3 v4 v5 => rfl) (by decide) rfl (k := 5) hr ?_
  intro env L A' hE hr'
  refine s_cons ?_
  refine s_assign ?_
  refine m_own ?_
  tlg_ne
  refine met_t 9 (by decide) (by lcg_sub) (by lcg_sub) (by decide) ?_ mN9
  refine a_cons ?_
  tlg_ne
  refine a_nil ?_
  refine CD.cl (elementRow_ok P (by lcg_src) hi hk hz (hr'.le (by decide)) ?_)
  isplit
  refine t_cons ?_
  refine s_for ?_
  refine r_attr ?_
  tlg_ne
  first | refine att_tree (by lcg_sub) (by lcg_sub) rfl ?_ | refine att_node (by lcg_sub) (by lcg_sub) (by first | (with_reducible exact nd_1) | (with_reducible exact nd_2) | (with_reducible exact nd_3) | (with_reducible exact nd_4) | (with_reducible exact nd_5) | (with_reducible exact nd_6) | (with_reducible exact nd_7) | (with_reducible exact nd_8) | (with_reducible exact nd_9)) (by first | rfl | assumption) ?_ | refine AttK.mk _ _ _ _ _ rfl (by lcg_sub) (by lcg_sub) (by lcg_sub) (by first | exact PX.aT _ | exact (PX.aN _ _ (by decide)).1) (by first | rfl | assumption) ?_
  refine iter_list (by lcg_sub) fun it => ?_
  have hlen : e < t.rows.length := (List.getElem?_eq_some_iff.mp hi).1
  refine inv_sb31 (fun i vn vk => nd.at'.length - i) (fun i vn vk => i ≤ nd.at'.length) (fun i vn vk => (it, .liter nd.a i) :: (L, .frame [("self", some (.ref t.x)), ("element", some (.int e)), ("name", some (.str name)), ("uri", some (.str "")), ("local", some (.str loc)), ("value", some (.str val)), ("row", some (.ref nd.x)), ("node", vn), ("known", vk)]) :: (treeLed P t ++ l)) 0 none none Sb.refl (Nat.zero_le _) fun J (hNi : ∀ i vn vk, i ≤ nd.at'.length → J (nd.at'.length - i) ((it, .liter nd.a i) :: (L, .frame [("self", some (.ref t.x)), ("element", some (.int e)), ("name", some (.str name)), ("uri", some (.str "")), ("local", some (.str loc)), ("value", some (.str val)), ("row", some (.ref nd.x)), ("node", vn), ("known", vk)]) :: (treeLed P t ++ l))) i vn vk (hil : i ≤ nd.at'.length) => (?_ : TurnK Z _ _ ((it, .liter nd.a i) :: (L, .frame [("self", some (.ref t.x)), ("element", some (.int e)), ("name", some (.str name)), ("uri", some (.str "")), ("local", some (.str loc)), ("value", some (.str val)), ("row", some (.ref nd.x)), ("node", vn), ("known", vk)]) :: (treeLed P t ++ l)) _ _ _)
  by_cases hlt : i < nd.at'.length
  · right
    obtain ⟨kn, hkn, hne⟩ := hno nd.at'[i] (List.getElem_mem hlt)
    have k1 := node_in1 hT (List.mem_of_getElem? hkn)
    have k2 := node_in2 hT (List.mem_of_getElem? hkn)
    have k3 := node_in3 hT (List.mem_of_getElem? hkn)
    have k4 := node_in4 hT (List.mem_of_getElem? hkn)
    have k5 := node_in5 hT (List.mem_of_getElem? hkn)
    refine ⟨.int nd.at'[i], _, next_list (by krn_off) (by lcg_sub) (by simp [hlt]), ?_⟩
    isplit
    refine s_cons ?_
    refine s_assign ?_
    refine r_sub ?_
    refine r_attr ?_
    tlg_ne
    first | refine att_tree (by lcg_sub) (by lcg_sub) rfl ?_ | refine att_node (by lcg_sub) (by lcg_sub) (by first | (with_reducible exact nd_1) | (with_reducible exact nd_2) | (with_reducible exact nd_3) | (with_reducible exact nd_4) | (with_reducible exact nd_5) | (with_reducible exact nd_6) | (with_reducible exact nd_7) | (with_reducible exact nd_8) | (with_reducible exact nd_9)) (by first | rfl | assumption) ?_ | refine AttK.mk _ _ _ _ _ rfl (by lcg_sub) (by lcg_sub) (by lcg_sub) (by first | exact PX.aT _ | exact (PX.aN _ _ (by decide)).1) (by first | rfl | assumption) ?_
    tlg_ne
    refine i_list (v := .ref kn.x) (by lcg_sub) (by omega) (by have := (List.getElem?_eq_some_iff.mp hkn).1; omega) (rowRef hkn) ?_
    isplit
    refine t_cons ?_
    refine s_if ?_
    refine t_and2 ?_
    refine t_cmp ?_
    refine r_attr ?_
    tlg_ne
    first | refine att_tree (by lcg_sub) (by lcg_sub) rfl ?_ | refine att_node (by lcg_sub) (by lcg_sub) (by first | (with_reducible exact nd_1) | (with_reducible exact nd_2) | (with_reducible exact nd_3) | (with_reducible exact nd_4) | (with_reducible exact nd_5) | (with_reducible exact nd_6) | (with_reducible exact nd_7) | (with_reducible exact nd_8) | (with_reducible exact nd_9)) (by first | rfl | assumption) ?_ | refine AttK.mk _ _ _ _ _ rfl (by lcg_sub) (by lcg_sub) (by lcg_sub) (by first | exact PX.aT _ | exact (PX.aN _ _ (by decide)).1) (by first | rfl | assumption) ?_
    tlg_ne
    refine c_eqs ⟨fun _ => ?_, fun _ => ?_⟩
    · refine t_cmp ?_
      refine r_attr ?_
      tlg_ne
      first | refine att_tree (by lcg_sub) (by lcg_sub) rfl ?_ | refine att_node (by lcg_sub) (by lcg_sub) (by first | (with_reducible exact nd_1) | (with_reducible exact nd_2) | (with_reducible exact nd_3) | (with_reducible exact nd_4) | (with_reducible exact nd_5) | (with_reducible exact nd_6) | (with_reducible exact nd_7) | (with_reducible exact nd_8) | (with_reducible exact nd_9)) (by first | rfl | assumption) ?_ | refine AttK.mk _ _ _ _ _ rfl (by lcg_sub) (by lcg_sub) (by lcg_sub) (by first | exact PX.aT _ | exact (PX.aN _ _ (by decide)).1) (by first | rfl | assumption) ?_
      tlg_ne
      refine c_eqs (br_f (beq_false_of_ne hne) ?_)
      refine s_nil ?_
      refine t_nil ?_
      exact ⟨_, _, dec_lt hlt, Sb.refl, hNi (i + 1) _ _ hlt⟩
    · skip
      refine br_f rfl ?_
      refine s_nil ?_
      refine t_nil ?_
      exact ⟨_, _, dec_lt hlt, Sb.refl, hNi (i + 1) _ _ hlt⟩
  left
  refine ⟨_, end_list hr'.hh (by lcg_sub) (by lcg_sub) (by first | exact len_map_le (len_map_le (by omega)) | exact len_map_le (by omega) | (simp; omega)) (by lcg_off) (by simp), ?_⟩
  refine t_cons ?_
  refine s_assign ?_
  refine m_own ?_
  tlg_ne
  refine met_t 1 (by decide) (by lcg_sub) (by lcg_sub) (by decide) ?_ mN1
  refine a_cons ?_
  refine r_str ?_
  refine a_cons ?_
  tlg_ne
  refine a_cons ?_
  tlg_ne
  refine a_cons ?_
  tlg_ne
  refine a_cons ?_
  tlg_ne
  refine a_cons ?_
  tlg_ne
  refine a_nil ?_
  refine CL.pull (l2 := treeLed P t ++ ((L, _) :: l)) List.perm_middle (newRow_ok P (par := some e) hz (hr'.le (by decide)) (fun x d c a n => ?_))
  have hi2 := add_get (n := newNode x d c a n "attribute" name "" loc val (some e)) hi
  obtain ⟨rest, e1, e2⟩ := tree_split (P := P) hi2
  refine ⟨_, split_Sb e1, ?_⟩
  simp only [nodeLed, TreeA.add, List.cons_append, List.nil_append]
  isplit
  refine t_cons ?_
  refine s_expr (by assumption) ?_
  refine m_append ?_
  refine r_attr ?_
  tlg_ne
  first | refine att_tree (by lcg_sub) (by lcg_sub) rfl ?_ | refine att_node (by lcg_sub) (by lcg_sub) (by first | (with_reducible exact nd_1) | (with_reducible exact nd_2) | (with_reducible exact nd_3) | (with_reducible exact nd_4) | (with_reducible exact nd_5) | (with_reducible exact nd_6) | (with_reducible exact nd_7) | (with_reducible exact nd_8) | (with_reducible exact nd_9)) (by first | rfl | assumption) ?_ | refine AttK.mk _ _ _ _ _ rfl (by lcg_sub) (by lcg_sub) (by lcg_sub) (by first | exact PX.aT _ | exact (PX.aN _ _ (by decide)).1) (by first | rfl | assumption) ?_
  refine ⟨_, rfl, ⟨_, by lcg_sub⟩, ?_⟩
  tlg_ne
  refine ⟨inl nd.at', _, by krn_off, by first | exact len_map_le (len_map_le (by omega)) | exact len_map_le (by omega) | (simp; omega), ?_⟩
  refine t_cons ?_
  refine s_ret ?_
  tlg_ne
  refine thr ?_
  refine ⟨_, ?_, h x d c a n⟩
  have e3 := e2 (nd.addAt t.rows.length) rfl
  rw [set_eq_mod hi2 (f := (·.addAt t.rows.length))] at e3
  refine Sb.trans (join_Sb e3) ?_
  simp only [nodeLed, NodeA.addAt, TreeA.add, inl_snoc, List.cons_append, List.nil_append]
  tb_rel
theorem addNamespace_ok (P : PX Z) {t : TreeA} {name uri : Str} {e : Nat} {nd : NodeA} {Q : AV → Led → Prop} (hi : t.rows[e]? = some nd) (hk : nd.kind = "element") (hz : t.rows.length ≤ 50) (hc : nd.ns.length ≤ 50)
    (hno : ∀ k ∈ nd.ns, ∃ kn, t.rows[k]? = some kn ∧ kn.name ≠ name) (hr : Room A 6)
    (h : ∀ x d c a n, Q (.int t.rows.length) (treeLed P ((t.add (newNode x d c a n "namespace" name "" name uri (some e))).mod e (·.addNs t.rows.length)) ++ l)) :
    CD Z A (.ref (P.ma 11)) [.ref t.x, .int e, .str name, .str uri] (treeLed P t ++ l) Q X := by
  have hT : In (treeLed P t) (treeLed P t ++ l) := In.app
  have m1 := tree_in1 hT
  have m2 := tree_in2 hT
  have m3 := tree_in3 hT
  have n1 := node_in1 hT (List.mem_of_getElem? hi)
  have n2 := node_in2 hT (List.mem_of_getElem? hi)
  have n3 := node_in3 hT (List.mem_of_getElem? hi)
  have n4 := node_in4 hT (List.mem_of_getElem? hi)
  have n5 := node_in5 hT (List.mem_of_getElem? hi)
  refine cd_fn (P.mdef 11 (by decide)).1 (m := [("self", some (.ref t.x)), ("element", some (.int e)), ("prefix", some (.str name)), ("uri", some (.str uri)), ("row", none), ("node", none)]) (names := [("self", .local), ("element", .local), ("prefix", .local), ("uri", .local), ("row", .local), ("node", .local)]) (ps := ["self", "element", "prefix", "uri"]) (others := ["row", "node"]) rfl rfl (fun doc pm cdv ct => bind4 fun v0 v1 v2 v3 => rfl) (by decide) rfl (k := 5) hr ?_
  intro env L A' hE hr'
  refine s_cons ?_
  refine s_assign ?_
  refine m_own ?_
  tlg_ne
  refine met_t 9 (by decide) (by lcg_sub) (by lcg_sub) (by decide) ?_ mN9
  refine a_cons ?_
  tlg_ne
  refine a_nil ?_
  refine CD.cl (elementRow_ok P (by lcg_src) hi hk hz (hr'.le (by decide)) ?_)
  isplit
  refine t_cons ?_
  refine s_for ?_
  refine r_attr ?_
  tlg_ne
  first | refine att_tree (by lcg_sub) (by lcg_sub) rfl ?_ | refine att_node (by lcg_sub) (by lcg_sub) (by first | (with_reducible exact nd_1) | (with_reducible exact nd_2) | (with_reducible exact nd_3) | (with_reducible exact nd_4) | (with_reducible exact nd_5) | (with_reducible exact nd_6) | (with_reducible exact nd_7) | (with_reducible exact nd_8) | (with_reducible exact nd_9)) (by first | rfl | assumption) ?_ | refine AttK.mk _ _ _ _ _ rfl (by lcg_sub) (by lcg_sub) (by lcg_sub) (by first | exact PX.aT _ | exact (PX.aN _ _ (by decide)).1) (by first | rfl | assumption) ?_
  refine iter_list (by lcg_sub) fun it => ?_
  have hlen : e < t.rows.length := (List.getElem?_eq_some_iff.mp hi).1
  refine inv_sb21 (fun i vn => nd.ns.length - i) (fun i vn => i ≤ nd.ns.length) (fun i vn => (it, .liter nd.n i) :: (L, .frame [("self", some (.ref t.x)), ("element", some (.int e)), ("prefix", some (.str name)), ("uri", some (.str uri)), ("row", some (.ref nd.x)), ("node", vn)]) :: (treeLed P t ++ l)) 0 none Sb.refl (Nat.zero_le _) fun J (hNi : ∀ i vn, i ≤ nd.ns.length → J (nd.ns.length - i) ((it, .liter nd.n i) :: (L, .frame [("self", some (.ref t.x)), ("element", some (.int e)), ("prefix", some (.str name)), ("uri", some (.str uri)), ("row", some (.ref nd.x)), ("node", vn)]) :: (treeLed P t ++ l))) i vn (hil : i ≤ nd.ns.length) => (?_ : TurnK Z _ _ ((it, .liter nd.n i) :: (L, .frame [("self", some (.ref t.x)), ("element", some (.int e)), ("prefix", some (.str name)), ("uri", some (.str uri)), ("row", some (.ref nd.x)), ("node", vn)]) :: (treeLed P t ++ l)) _ _ _)
  by_cases hlt : i < nd.ns.length
  · right
    obtain ⟨kn, hkn, hne⟩ := hno nd.ns[i] (List.getElem_mem hlt)
    have k1 := node_in1 hT (List.mem_of_getElem? hkn)
    have k2 := node_in2 hT (List.mem_of_getElem? hkn)
    have k3 := node_in3 hT (List.mem_of_getElem? hkn)
    have k4 := node_in4 hT (List.mem_of_getElem? hkn)
    have k5 := node_in5 hT (List.mem_of_getElem? hkn)
    refine ⟨.int nd.ns[i], _, next_list (by krn_off) (by lcg_sub) (by simp [hlt]), ?_⟩
    isplit
    refine s_cons ?_
    refine s_if ?_
    refine t_cmp ?_
    refine r_attr ?_
    refine r_sub ?_
    refine r_attr ?_
    tlg_ne
    first | refine att_tree (by lcg_sub) (by lcg_sub) rfl ?_ | refine att_node (by lcg_sub) (by lcg_sub) (by first | (with_reducible exact nd_1) | (with_reducible exact nd_2) | (with_reducible exact nd_3) | (with_reducible exact nd_4) | (with_reducible exact nd_5) | (with_reducible exact nd_6) | (with_reducible exact nd_7) | (with_reducible exact nd_8) | (with_reducible exact nd_9)) (by first | rfl | assumption) ?_ | refine AttK.mk _ _ _ _ _ rfl (by lcg_sub) (by lcg_sub) (by lcg_sub) (by first | exact PX.aT _ | exact (PX.aN _ _ (by decide)).1) (by first | rfl | assumption) ?_
    tlg_ne
    refine i_list (v := .ref kn.x) (by lcg_sub) (by omega) (by have := (List.getElem?_eq_some_iff.mp hkn).1; omega) (rowRef hkn) ?_
    first | refine att_tree (by lcg_sub) (by lcg_sub) rfl ?_ | refine att_node (by lcg_sub) (by lcg_sub) (by first | (with_reducible exact nd_1) | (with_reducible exact nd_2) | (with_reducible exact nd_3) | (with_reducible exact nd_4) | (with_reducible exact nd_5) | (with_reducible exact nd_6) | (with_reducible exact nd_7) | (with_reducible exact nd_8) | (with_reducible exact nd_9)) (by first | rfl | assumption) ?_ | refine AttK.mk _ _ _ _ _ rfl (by lcg_sub) (by lcg_sub) (by lcg_sub) (by first | exact PX.aT _ | exact (PX.aN _ _ (by decide)).1) (by first | rfl | assumption) ?_
    tlg_ne
    refine c_eqs (br_f (beq_false_of_ne hne) ?_)
    refine s_nil ?_
    refine t_nil ?_
    exact ⟨_, _, dec_lt hlt, Sb.refl, hNi (i + 1) _ hlt⟩
  left
  refine ⟨_, end_list hr'.hh (by lcg_sub) (by lcg_sub) (by first | exact len_map_le (len_map_le (by omega)) | exact len_map_le (by omega) | (simp; omega)) (by lcg_off) (by simp), ?_⟩
  refine t_cons ?_
  refine s_assign ?_
  refine m_own ?_
  tlg_ne
  refine met_t 1 (by decide) (by lcg_sub) (by lcg_sub) (by decide) ?_ mN1
  refine a_cons ?_
  refine r_str ?_
  refine a_cons ?_
  tlg_ne
  refine a_cons ?_
  refine r_str ?_
  refine a_cons ?_
  tlg_ne
  refine a_cons ?_
  tlg_ne
  refine a_cons ?_
  tlg_ne
  refine a_nil ?_
  refine CL.pull (l2 := treeLed P t ++ ((L, _) :: l)) List.perm_middle (newRow_ok P (par := some e) hz (hr'.le (by decide)) (fun x d c a n => ?_))
  have hi2 := add_get (n := newNode x d c a n "namespace" name "" name uri (some e)) hi
  obtain ⟨rest, e1, e2⟩ := tree_split (P := P) hi2
  refine ⟨_, split_Sb e1, ?_⟩
  simp only [nodeLed, TreeA.add, List.cons_append, List.nil_append]
  isplit
  refine t_cons ?_
  refine s_expr (by assumption) ?_
  refine m_append ?_
  refine r_attr ?_
  tlg_ne
  first | refine att_tree (by lcg_sub) (by lcg_sub) rfl ?_ | refine att_node (by lcg_sub) (by lcg_sub) (by first | (with_reducible exact nd_1) | (with_reducible exact nd_2) | (with_reducible exact nd_3) | (with_reducible exact nd_4) | (with_reducible exact nd_5) | (with_reducible exact nd_6) | (with_reducible exact nd_7) | (with_reducible exact nd_8) | (with_reducible exact nd_9)) (by first | rfl | assumption) ?_ | refine AttK.mk _ _ _ _ _ rfl (by lcg_sub) (by lcg_sub) (by lcg_sub) (by first | exact PX.aT _ | exact (PX.aN _ _ (by decide)).1) (by first | rfl | assumption) ?_
  refine ⟨_, rfl, ⟨_, by lcg_sub⟩, ?_⟩
  tlg_ne
  refine ⟨inl nd.ns, _, by krn_off, by first | exact len_map_le (len_map_le (by omega)) | exact len_map_le (by omega) | (simp; omega), ?_⟩
  refine t_cons ?_
  refine s_ret ?_
  tlg_ne
  refine thr ?_
  refine ⟨_, ?_, h x d c a n⟩
  have e3 := e2 (nd.addNs t.rows.length) rfl
  rw [set_eq_mod hi2 (f := (·.addNs t.rows.length))] at e3
  refine Sb.trans (join_Sb e3) ?_
  simp only [nodeLed, NodeA.addNs, TreeA.add, inl_snoc, List.cons_append, List.nil_append]
  tb_rel
end
theorem pickA_plain (xs : List AV) (lo hi : Option Int) : pickA xs lo hi none = (xs.drop (kms_lo lo xs.length)).take (kms_hi hi xs.length - kms_lo lo xs.length) := by
  unfold pickA
  rw [kms_bounds]
  have := pick_run xs.toArray (kms_lo lo xs.length) (kms_hi hi xs.length - kms_lo lo xs.length)
  simp only [sliceRange_one]
  simpa using this
theorem pickA_rev (xs : List AV) : pickA xs none none (some (-1)) = xs.reverse := by
  unfold pickA
  rw [krv_bounds, krv_sliceRange, krv_range, List.filterMap_reverse]
  have := krv_all xs.toArray
  simp only [List.size_toArray, List.getElem?_toArray] at this
  rw [this]
theorem pickA_rev_il (ns : List Nat) : pickA (inl ns) none none (some (-1)) = inl ns.reverse := by rw [pickA_rev]; simp
theorem pickA_upto (xs : List AV) (k : Nat) : pickA xs none (some k) none = xs.take k := by
  rw [pickA_plain]
  have h1 : ¬ ((k : Int) < 0) := by omega
  simp only [kms_lo, kms_hi, h1, if_false, List.drop_zero, Int.toNat_natCast, Nat.sub_zero]
  rw [kmk_take_min]
theorem pickA_from (xs : List AV) (k : Nat) : pickA xs (some k) none none = xs.drop k := by
  rw [pickA_plain]
  have h1 : ¬ ((k : Int) < 0) := by omega
  simp only [kms_lo, kms_hi, h1, if_false, Int.toNat_natCast]
  rw [kmk_drop_min, List.take_of_length_le]
  rw [List.length_drop]; omega
theorem pickA_last (xs : List AV) : pickA xs none (some (-1)) none = xs.dropLast := by
  rw [pickA_plain, List.dropLast_eq_take]
  simp [kms_lo, kms_hi]
inductive Forest (ch : Nat → List Nat) : List Nat → List Nat → Prop
  | nil : Forest ch [] []
  | cons {i : Nat} {r ds : List Nat} : Forest ch (ch i ++ r) ds → Forest ch (i :: r) (i :: ds)
noncomputable def TreeA.chs (t : TreeA) (i : Nat) : List Nat := (t.rows[i]?.map (·.ch)).getD []
noncomputable def TreeA.pars (t : TreeA) (i : Nat) : Option Nat := (t.rows[i]?.map (·.par)).getD none
noncomputable def TreeA.kinds (t : TreeA) (i : Nat) : Str := (t.rows[i]?.map (·.kind)).getD ""
noncomputable def beside (k : Str) : Bool := strIn k [.str "attribute", .str "namespace"]
structure TreeA.Good (t : TreeA) : Prop where
  size : t.rows.length ≤ 50
  chl : ∀ n ∈ t.rows, n.ch.length ≤ 50
  atl : ∀ n ∈ t.rows, n.at'.length ≤ 50
  nsl : ∀ n ∈ t.rows, n.ns.length ≤ 50
  chi : ∀ n ∈ t.rows, ∀ k ∈ n.ch, k < t.rows.length
  ati : ∀ n ∈ t.rows, ∀ k ∈ n.at', k < t.rows.length
  nsi : ∀ n ∈ t.rows, ∀ k ∈ n.ns, k < t.rows.length
  pri : ∀ n ∈ t.rows, ∀ k, n.par = some k → k < t.rows.length
  mem : ∀ i nd, t.rows[i]? = some nd → ∀ p, nd.par = some p → beside nd.kind = false → i ∈ t.chs p
section
variable {Z : Amb} {A : Around} {l : Led} {X : Value → Shared → Prop}
theorem isBeside_ok (P : PX Z) {t : TreeA} {i : Nat} {nd : NodeA} {Q : AV → Led → Prop} (hT : In (treeLed P t) l) (G : t.Good) (hi : t.rows[i]? = some nd) (hr : Room A 6)
    (h : Q (.bool (strIn nd.kind [.str "attribute", .str "namespace"])) l) : CD Z A (.ref (P.fa 2)) [.ref t.x, .int i] l Q X := by
  have m1 := tree_in1 hT
  have m2 := tree_in2 hT
  have m3 := tree_in3 hT
  refine cd_fn (P.fdef 2 (by decide)).1 (m := [("tree", some (.ref t.x)), ("node", some (.int i))]) (names := [("tree", .local), ("node", .local)]) (ps := ["tree", "node"]) (others := []) rfl rfl (fun doc pm cdv ct => bind2 fun v0 v1 => rfl) (by decide) rfl (k := 5) hr ?_
  intro env L A' hE hr'
  refine s_cons ?_
  refine s_ret ?_
  refine r_cmp ?_
  refine m_own ?_
  tlg_ne
  refine met_t 13 (by decide) (by lcg_sub) (by lcg_sub) (by decide) ?_ mN13
  refine a_cons ?_
  tlg_ne
  refine a_nil ?_
  refine CD.cl (get_ok P (j := 13) (by decide) (by lcg_src) hi (Nat.le_trans G.size (by decide)) (hr'.le (by decide)) (fun _ => ?_) (by simp) (by simp) (by simp))
  refine r_tuple ?_
  refine a_cons ?_
  refine r_str ?_
  refine a_cons ?_
  refine r_str ?_
  refine a_nil ?_
  refine ⟨by decide, fun a => ?_⟩
  refine c_instr (by lcg_sub) (by simp) ?_
  refine thr ?_
  exact ⟨_, by tb_rel, h⟩
end
theorem Forest.len {ch : Nat → List Nat} {st ds : List Nat} (h : Forest ch st ds) : st.length ≤ ds.length := by
  induction h with
  | nil => exact Nat.le_refl _
  | cons _ ih => simp only [List.length_append, List.length_cons] at ih ⊢; omega
section
variable {Z : Amb} {A : Around} {l : Led} {X : Value → Shared → Prop}
theorem c_nenil {a b : Addr} {xs : List Nat} {Q : Bool → Led → Prop} (ha : (a, .list (inl xs)) ∈ l) (hb : (b, .list []) ∈ l) (hu : A.units + 64 < cLine) (h : Q (!decide (xs = [])) l) : CP Z A .NotEq (.ref a) (.ref b) l Q X := by
  refine c_nel (ns := nl xs) (ms := []) ha hb hu ?_
  have : decide (nl xs = []) = decide (xs = []) := by simp
  rw [this]; exact h
theorem inl_app {a b : List Nat} : inl (a ++ b) = inl a ++ inl b := by simp
theorem Room.cl {A : Around} {k : Nat} (h : Room A k) : A.units + 64 < cLine := by
  obtain ⟨_, _, h3⟩ := h; omega
theorem chs_of {t : TreeA} {i : Nat} {nd : NodeA} (h : t.rows[i]? = some nd) : t.chs i = nd.ch := by unfold TreeA.chs; rw [h]; rfl
theorem descendants_ok (P : PX Z) {t : TreeA} {i : Nat} {nd : NodeA} {ds : List Nat} {Q : AV → Led → Prop} (hT : In (treeLed P t) l) (G : t.Good) (hi : t.rows[i]? = some nd) (hF : Forest t.chs nd.ch ds) (hd : ds.length ≤ 100) (hr : Room A 6)
    (h : ∀ r, Q (.ref r) ((r, .list (inl ds)) :: l)) : CD Z A (.ref (P.fa 3)) [.ref t.x, .int i] l Q X := by
  have m1 := tree_in1 hT
  have m2 := tree_in2 hT
  have m3 := tree_in3 hT
  have hz : t.rows.length ≤ 100 := Nat.le_trans G.size (by decide)
  refine cd_fn (P.fdef 3 (by decide)).1 (m := [("tree", some (.ref t.x)), ("node", some (.int i)), ("found", none), ("left", none), ("here", none)]) (names := [("tree", .local), ("node", .local), ("found", .local), ("left", .local), ("here", .local), ("list", .globalImplicit)]) (ps := ["tree", "node"]) (others := ["found", "left", "here"]) rfl rfl (fun doc pm cdv ct => bind2 fun v0 v1 => rfl) (by decide) rfl (k := 5) hr ?_
  intro env L A' hE hr'
  refine s_cons ?_
  refine s_tup2 (by assumption) (Room.hh (by assumption)) (by lcg_sub) (by lcg_sub) ?_
  refine r_tuple ?_
  refine a_cons ?_
  refine r_list ?_
  refine a_nil ?_
  refine ⟨by decide, fun fo => ?_⟩
  refine a_cons ?_
  refine r_slice ?_
  refine rc_list (by assumption) (by assumption) (by lcg_sub) ?_
  refine m_own ?_
  tlg_ne
  refine met_t 19 (by decide) (by lcg_sub) (by lcg_sub) (by decide) ?_ mN19
  refine a_cons ?_
  tlg_ne
  refine a_nil ?_
  refine CD.cl (children_ok P (by lcg_src) hi hz (Nat.le_trans (G.chl _ (List.mem_of_getElem? hi)) (by decide)) (hr'.le (by decide)) fun r => ?_)
  have hcl := G.chl _ (List.mem_of_getElem? hi)
  refine b_list (by lcg_sub) (by first | exact len_map_le (len_map_le (by omega)) | exact len_map_le (by omega) | (simp; omega)) fun r2 => ?_
  refine eo_none ?_
  refine eo_none ?_
  refine eo_some ?_
  refine r_negc ?_
  refine ⟨_, _, _, _, _, rfl, by lcg_sub, rfl, rfl, rfl, by decide, by first | exact len_map_le (len_map_le (by omega)) | exact len_map_le (by omega) | (simp; omega), fun lf => ?_⟩
  rw [pickA_rev_il]
  refine a_nil ?_
  refine ⟨by simp, fun tu => ?_⟩
  refine ⟨_, _, _, rfl, by lcg_sub, ?_⟩
  isplit
  isplit
  refine t_cons ?_
  refine TR.subperm (l2 := (fo, .list (inl [])) :: (lf, .list (inl nd.ch.reverse)) :: (L, .frame [("tree", some (.ref t.x)), ("node", some (.int i)), ("found", some (.ref fo)), ("left", some (.ref lf)), ("here", none)]) :: l) ?_ (by tb_rel)
  refine s_while (fun n l1 => ∃ st dn ds', Forest t.chs st ds' ∧ dn ++ ds' = ds ∧ (∀ k ∈ st, k < t.rows.length) ∧ n = ds'.length ∧ ∃ hv, l1 = (fo, .list (inl dn)) :: (lf, .list (inl st.reverse)) :: (L, .frame [("tree", some (.ref t.x)), ("node", some (.int i)), ("found", some (.ref fo)), ("left", some (.ref lf)), ("here", hv)]) :: l) ds.length ⟨nd.ch, [], ds, hF, rfl, G.chi _ (List.mem_of_getElem? hi), rfl, none, rfl⟩ ?_
  rintro n l1 ⟨st, dn, ds', hF', e, hst, rfl, hv, rfl⟩
  refine t_cmp ?_
  tlg_ne
  refine r_list ?_
  refine a_nil ?_
  refine ⟨by decide, fun em => ?_⟩
  refine c_nenil (by lcg_sub) (by lcg_sub) hr'.cl ?_
  have hl : dn.length + ds'.length = ds.length := by rw [← e, List.length_append]
  have hl2 := hF'.len
  cases hF' with
  | nil =>
    refine br_f rfl ?_
    refine t_cons ?_
    refine s_ret ?_
    tlg_ne
    refine thr ?_
    simp only [List.append_nil] at e
    subst e
    exact ⟨_, by tb_rel, h fo⟩
  | @cons k r ds2 hF2 =>
    refine br_t (by simp) ?_
    have hk : k < t.rows.length := hst k (.head _)
    refine (fun kn hkn => ?_ : ∀ kn, t.rows[k]? = some kn → _) _ (List.getElem?_eq_getElem hk)
    have hkc := G.chl _ (List.mem_of_getElem? hkn)
    simp only [List.length_cons] at hl hl2
    refine s_cons ?_
    refine s_assign ?_
    refine m_pop ?_
    tlg_ne
    refine ⟨lf, inl r.reverse, .int k, _, rfl, (by rw [List.reverse_cons, inl_snoc]; krn_off), by first | exact len_map_le (len_map_le (by omega)) | exact len_map_le (by omega) | (simp; omega), ?_⟩
    isplit
    refine t_cons ?_
    refine s_expr (by assumption) ?_
    refine m_append ?_
    tlg_ne
    refine ⟨_, rfl, ⟨_, by lcg_sub⟩, ?_⟩
    tlg_ne
    refine ⟨_, _, by krn_off, by first | exact len_map_le (len_map_le (by omega)) | exact len_map_le (by omega) | (simp; omega), ?_⟩
    refine t_cons ?_
    refine s_expr (by assumption) ?_
    refine m_extend ?_
    tlg_ne
    refine ⟨_, rfl, ⟨_, by lcg_sub⟩, ?_⟩
    refine r_slice ?_
    refine rc_list (by assumption) (by assumption) (by lcg_sub) ?_
    refine m_own ?_
    tlg_ne
    refine met_t 19 (by decide) (by lcg_sub) (by lcg_sub) (by decide) ?_ mN19
    refine a_cons ?_
    tlg_ne
    refine a_nil ?_
    refine CD.cl (children_ok P (by lcg_src) hkn hz (Nat.le_trans hkc (by decide)) (hr'.le (by decide)) fun r => ?_)
    refine b_list (by lcg_sub) (by first | exact len_map_le (len_map_le (by omega)) | exact len_map_le (by omega) | (simp; omega)) fun r2 => ?_
    refine eo_none ?_
    refine eo_none ?_
    refine eo_some ?_
    refine r_negc ?_
    refine ⟨_, _, _, _, _, rfl, by lcg_sub, rfl, rfl, rfl, by decide, by first | exact len_map_le (len_map_le (by omega)) | exact len_map_le (by omega) | (simp; omega), fun rv => ?_⟩
    rw [pickA_rev_il]
    refine ⟨_, _, _, _, rfl, by lcg_sub, by krn_off, by first | exact len_map_le (len_map_le (by omega)) | exact len_map_le (by omega) | (simp; omega), by first | exact len_map_le (len_map_le (by omega)) | exact len_map_le (by omega) | (simp; omega), ?_⟩
    refine t_nil ?_
    refine ⟨ds2.length, _, by simp, ?_, kn.ch ++ _, dn ++ [k], ds2, chs_of hkn ▸ hF2, by rw [← e]; simp, ?_, rfl, some (.int k), rfl⟩
    · rw [List.reverse_append, inl_snoc, inl_app]
      tb_rel
    · intro j hj
      rcases List.mem_append.mp hj with hj | hj
      · exact G.chi _ (List.mem_of_getElem? hkn) j hj
      · exact hst j (.tail _ hj)
end
inductive Chain (par : Nat → Option Nat) : Option Nat → List Nat → Prop
  | nil : Chain par none []
  | cons {p : Nat} {as : List Nat} : Chain par (par p) as → Chain par (some p) (p :: as)
theorem pars_of {t : TreeA} {i : Nat} {nd : NodeA} (h : t.rows[i]? = some nd) : t.pars i = nd.par := by unfold TreeA.pars; rw [h]; rfl
theorem kinds_of {t : TreeA} {i : Nat} {nd : NodeA} (h : t.rows[i]? = some nd) : t.kinds i = nd.kind := by unfold TreeA.kinds; rw [h]; rfl
section
variable {Z : Amb} {A : Around} {l : Led} {X : Value → Shared → Prop}
theorem ancestors_ok (P : PX Z) {t : TreeA} {i : Nat} {nd : NodeA} {as : List Nat} {Q : AV → Led → Prop} (hT : In (treeLed P t) l) (G : t.Good) (hi : t.rows[i]? = some nd) (hC : Chain t.pars nd.par as) (hd : as.length ≤ 100) (hr : Room A 6)
    (h : ∀ r, Q (.ref r) ((r, .list (inl as)) :: l)) : CD Z A (.ref (P.fa 4)) [.ref t.x, .int i] l Q X := by
  have m1 := tree_in1 hT
  have m2 := tree_in2 hT
  have m3 := tree_in3 hT
  have hz : t.rows.length ≤ 100 := Nat.le_trans G.size (by decide)
  refine cd_fn (P.fdef 4 (by decide)).1 (m := [("tree", some (.ref t.x)), ("node", some (.int i)), ("found", none), ("here", none)]) (names := [("tree", .local), ("node", .local), ("found", .local), ("here", .local)]) (ps := ["tree", "node"]) (others := ["found", "here"]) rfl rfl (fun doc pm cdv ct => bind2 fun v0 v1 => rfl) (by decide) rfl (k := 5) hr ?_
  intro env L A' hE hr'
  refine s_cons ?_
  refine s_tup2 (by assumption) (Room.hh (by assumption)) (by lcg_sub) (by lcg_sub) ?_
  refine r_tuple ?_
  refine a_cons ?_
  refine r_list ?_
  refine a_nil ?_
  refine ⟨by decide, fun fo => ?_⟩
  refine a_cons ?_
  refine m_own ?_
  tlg_ne
  refine met_t 18 (by decide) (by lcg_sub) (by lcg_sub) (by decide) ?_ mN18
  refine a_cons ?_
  tlg_ne
  refine a_nil ?_
  refine CD.cl (get_ok P (j := 18) (by decide) (by lcg_src) hi hz (hr'.le (by decide)) (by simp) (by simp) (by simp) (fun _ => ?_))
  refine a_nil ?_
  refine ⟨by simp, fun tu => ?_⟩
  refine ⟨_, _, _, rfl, by lcg_sub, ?_⟩
  isplit
  isplit
  refine t_cons ?_
  refine TR.subperm (l2 := (fo, .list (inl [])) :: (L, .frame [("tree", some (.ref t.x)), ("node", some (.int i)), ("found", some (.ref fo)), ("here", some (pav nd.par))]) :: l) ?_ (by tb_rel)
  refine s_while (fun n l1 => ∃ o dn as', Chain t.pars o as' ∧ dn ++ as' = as ∧ (∀ k, o = some k → k < t.rows.length) ∧ n = as'.length ∧ l1 = (fo, .list (inl dn)) :: (L, .frame [("tree", some (.ref t.x)), ("node", some (.int i)), ("found", some (.ref fo)), ("here", some (pav o))]) :: l) as.length ⟨nd.par, [], as, hC, rfl, G.pri _ (List.mem_of_getElem? hi), rfl, rfl⟩ ?_
  rintro n l1 ⟨o, dn, as', hC', e, ho, rfl, rfl⟩
  have hl : dn.length + as'.length = as.length := by rw [← e, List.length_append]
  refine t_cmp ?_
  tlg_ne
  refine r_none ?_
  cases hC' with
  | nil =>
    refine c_isnot rfl (br_f rfl ?_)
    refine t_cons ?_
    refine s_ret ?_
    tlg_ne
    refine thr ?_
    simp only [List.append_nil] at e
    subst e
    exact ⟨_, by tb_rel, h fo⟩
  | @cons p as2 hC2 =>
    refine c_isnot rfl (br_t rfl ?_)
    have hk : p < t.rows.length := ho p rfl
    refine (fun kn hkn => ?_ : ∀ kn, t.rows[p]? = some kn → _) _ (List.getElem?_eq_getElem hk)
    refine s_cons ?_
    refine s_expr (by assumption) ?_
    refine m_append ?_
    tlg_ne
    refine ⟨_, rfl, ⟨_, by lcg_sub⟩, ?_⟩
    tlg_ne
    refine ⟨_, _, by krn_off, by first | exact len_map_le (len_map_le (by omega)) | exact len_map_le (by omega) | (simp; omega), ?_⟩
    refine t_cons ?_
    refine s_assign ?_
    refine m_own ?_
    tlg_ne
    refine met_t 18 (by decide) (by lcg_sub) (by lcg_sub) (by decide) ?_ mN18
    refine a_cons ?_
    tlg_ne
    refine a_nil ?_
    refine CD.cl (get_ok P (j := 18) (by decide) (by lcg_src) hkn hz (hr'.le (by decide)) (by simp) (by simp) (by simp) (fun _ => ?_))
    isplit
    refine t_nil ?_
    refine ⟨as2.length, _, by simp, Sb.refl, kn.par, dn ++ [p], as2, pars_of hkn ▸ hC2, by rw [← e]; simp, G.pri _ (List.mem_of_getElem? hkn), rfl, ?_⟩
    rw [inl_snoc]; rfl
theorem nl_idx {xs : List Nat} {k : Nat} : (nl xs).idxOf (k : Int) = xs.idxOf k := by
  induction xs with
  | nil => rfl
  | cons a r ih =>
    simp only [nl, List.map_cons, List.idxOf_cons] at ih ⊢
    by_cases h : a = k
    · subst h; simp
    · have : ¬ ((a : Int) = k) := by omega
      rw [ih, beq_false_of_ne h, beq_false_of_ne this]
noncomputable def TreeA.behind (t : TreeA) (nd : NodeA) (i : Nat) : List Nat := match nd.par with
  | none => []
  | some p => if beside nd.kind then [] else (t.chs p).drop ((t.chs p).idxOf i + 1)
noncomputable def TreeA.ahead (t : TreeA) (nd : NodeA) (i : Nat) : List Nat := match nd.par with
  | none => []
  | some p => if beside nd.kind then [] else ((t.chs p).take ((t.chs p).idxOf i)).reverse
theorem inl_take {xs : List Nat} {k : Nat} : (inl xs).take k = inl (xs.take k) := by simp [List.map_take]
theorem inl_drop {xs : List Nat} {k : Nat} : (inl xs).drop k = inl (xs.drop k) := by simp [List.map_drop]
theorem inl_rev {xs : List Nat} : (inl xs).reverse = inl xs.reverse := by simp
theorem siblingsBehind_ok (P : PX Z) {t : TreeA} {i : Nat} {nd : NodeA} {Q : AV → Led → Prop} (hT : In (treeLed P t) l) (G : t.Good) (hi : t.rows[i]? = some nd) (hr : Room A 8)
    (h : ∀ r, Q (.ref r) ((r, .list (inl (t.behind nd i))) :: l)) : CD Z A (.ref (P.fa 6)) [.ref t.x, .int i] l Q X := by
  have m1 := tree_in1 hT
  have m2 := tree_in2 hT
  have m3 := tree_in3 hT
  have hz : t.rows.length ≤ 100 := Nat.le_trans G.size (by decide)
  refine cd_fn (P.fdef 6 (by decide)).1 (m := [("tree", some (.ref t.x)), ("node", some (.int i)), ("parent", none), ("around", none)]) (names := [("tree", .local), ("node", .local), ("parent", .local), ("around", .local), ("is_beside", .globalImplicit), ("list", .globalImplicit)]) (ps := ["tree", "node"]) (others := ["parent", "around"]) rfl rfl (fun doc pm cdv ct => bind2 fun v0 v1 => rfl) (by decide) rfl (k := 7) hr ?_
  intro env L A' hE hr'
  refine s_cons ?_
  refine s_assign ?_
  refine m_own ?_
  tlg_ne
  refine met_t 18 (by decide) (by lcg_sub) (by lcg_sub) (by decide) ?_ mN18
  refine a_cons ?_
  tlg_ne
  refine a_nil ?_
  refine CD.cl (get_ok P (j := 18) (by decide) (by lcg_src) hi hz (hr'.le (by decide)) (by simp) (by simp) (by simp) (fun _ => ?_))
  isplit
  refine t_cons ?_
  refine s_if ?_
  refine t_or2 ?_
  refine t_cmp ?_
  tlg_ne
  refine r_none ?_
  refine c_is plain_pav ?_
  unfold TreeA.behind at h
  cases hp : nd.par with
  | none =>
    rw [hp] at h
    refine rb_t rfl (br_t rfl ?_)
    refine s_cons ?_
    refine s_ret ?_
    refine r_list ?_
    refine a_nil ?_
    refine ⟨by decide, fun r => ?_⟩
    refine thr ?_
    refine thr ?_
    exact ⟨_, by tb_rel, h r⟩
  | some p =>
    rw [hp] at h
    dsimp only at h
    refine rb_f rfl ?_
    refine t_call ?_
    refine r_callf (by assumption) 2 (by decide) (by assumption) (by lcg_sub) ?_ fN2
    refine a_cons ?_
    tlg_ne
    refine a_cons ?_
    tlg_ne
    refine a_nil ?_
    refine CD.cl (isBeside_ok P (by lcg_src) G hi (hr'.le (by decide)) ?_)
    refine ⟨_, rfl, ?_⟩
    cases hb : strIn nd.kind [.str "attribute", .str "namespace"] with
    | true =>
      rw [show beside nd.kind = true from hb] at h
      refine br_t rfl ?_
      refine s_cons ?_
      refine s_ret ?_
      refine r_list ?_
      refine a_nil ?_
      refine ⟨by decide, fun r => ?_⟩
      refine thr ?_
      refine thr ?_
      exact ⟨_, by tb_rel, h r⟩
    | false =>
      rw [show beside nd.kind = false from hb] at h
      refine br_f rfl ?_
      have hpl : p < t.rows.length := G.pri _ (List.mem_of_getElem? hi) p hp
      refine (fun pn hpn => ?_ : ∀ pn, t.rows[p]? = some pn → _) _ (List.getElem?_eq_getElem hpl)
      have hcl := G.chl _ (List.mem_of_getElem? hpn)
      have hmem := G.mem i nd hi p hp hb
      rw [chs_of hpn] at h hmem
      refine s_nil ?_
      refine t_cons ?_
      refine s_assign ?_
      refine rc_list (by assumption) (by assumption) (by lcg_sub) ?_
      refine m_own ?_
      tlg_ne
      refine met_t 19 (by decide) (by lcg_sub) (by lcg_sub) (by decide) ?_ mN19
      refine a_cons ?_
      tlg_ne
      refine a_nil ?_
      refine CD.cl (children_ok P (by lcg_src) hpn hz (Nat.le_trans hcl (by decide)) (hr'.le (by decide)) fun r => ?_)
      refine b_list (by lcg_sub) (by first | exact len_map_le (len_map_le (by omega)) | exact len_map_le (by omega) | (simp; omega)) fun r2 => ?_
      isplit
      refine t_cons ?_
      refine s_ret ?_
      refine r_slice ?_
      tlg_ne
      refine eo_some ?_
      refine r_binop ?_
      refine m_index ?_
      tlg_ne
      refine ⟨_, rfl, ⟨_, by lcg_sub⟩, ?_⟩
      tlg_ne
      refine ⟨nl pn.ch, i, rfl, by lcg_sub, List.mem_map_of_mem hmem, by first | exact len_map_le (len_map_le (by omega)) | exact len_map_le (by omega) | (simp; omega), ?_⟩
      refine r_int ?_
      refine o_add ?_
      refine eo_none ?_
      refine eo_none ?_
      rw [nl_idx]
      refine ⟨_, _, _, _, _, rfl, by lcg_sub, rfl, rfl, rfl, by simp, by first | exact len_map_le (len_map_le (by omega)) | exact len_map_le (by omega) | (simp; omega), fun rv => ?_⟩
      rw [show ((List.idxOf i pn.ch : Nat) : Int) + 1 = ((List.idxOf i pn.ch + 1 : Nat) : Int) by simp, pickA_from, inl_drop]
      refine thr ?_
      exact ⟨_, by tb_rel, h rv⟩
theorem siblingsAhead_ok (P : PX Z) {t : TreeA} {i : Nat} {nd : NodeA} {Q : AV → Led → Prop} (hT : In (treeLed P t) l) (G : t.Good) (hi : t.rows[i]? = some nd) (hr : Room A 8)
    (h : ∀ r, Q (.ref r) ((r, .list (inl (t.ahead nd i))) :: l)) : CD Z A (.ref (P.fa 5)) [.ref t.x, .int i] l Q X := by
  have m1 := tree_in1 hT
  have m2 := tree_in2 hT
  have m3 := tree_in3 hT
  have hz : t.rows.length ≤ 100 := Nat.le_trans G.size (by decide)
  refine cd_fn (P.fdef 5 (by decide)).1 (m := [("tree", some (.ref t.x)), ("node", some (.int i)), ("parent", none), ("around", none)]) (names := [("tree", .local), ("node", .local), ("parent", .local), ("around", .local), ("is_beside", .globalImplicit), ("list", .globalImplicit)]) (ps := ["tree", "node"]) (others := ["parent", "around"]) rfl rfl (fun doc pm cdv ct => bind2 fun v0 v1 => rfl) (by decide) rfl (k := 7) hr ?_
  intro env L A' hE hr'
  refine s_cons ?_
  refine s_assign ?_
  refine m_own ?_
  tlg_ne
  refine met_t 18 (by decide) (by lcg_sub) (by lcg_sub) (by decide) ?_ mN18
  refine a_cons ?_
  tlg_ne
  refine a_nil ?_
  refine CD.cl (get_ok P (j := 18) (by decide) (by lcg_src) hi hz (hr'.le (by decide)) (by simp) (by simp) (by simp) (fun _ => ?_))
  isplit
  refine t_cons ?_
  refine s_if ?_
  refine t_or2 ?_
  refine t_cmp ?_
  tlg_ne
  refine r_none ?_
  refine c_is plain_pav ?_
  unfold TreeA.ahead at h
  cases hp : nd.par with
  | none =>
    rw [hp] at h
    refine rb_t rfl (br_t rfl ?_)
    refine s_cons ?_
    refine s_ret ?_
    refine r_list ?_
    refine a_nil ?_
    refine ⟨by decide, fun r => ?_⟩
    refine thr ?_
    refine thr ?_
    exact ⟨_, by tb_rel, h r⟩
  | some p =>
    rw [hp] at h
    dsimp only at h
    refine rb_f rfl ?_
    refine t_call ?_
    refine r_callf (by assumption) 2 (by decide) (by assumption) (by lcg_sub) ?_ fN2
    refine a_cons ?_
    tlg_ne
    refine a_cons ?_
    tlg_ne
    refine a_nil ?_
    refine CD.cl (isBeside_ok P (by lcg_src) G hi (hr'.le (by decide)) ?_)
    refine ⟨_, rfl, ?_⟩
    cases hb : strIn nd.kind [.str "attribute", .str "namespace"] with
    | true =>
      rw [show beside nd.kind = true from hb] at h
      refine br_t rfl ?_
      refine s_cons ?_
      refine s_ret ?_
      refine r_list ?_
      refine a_nil ?_
      refine ⟨by decide, fun r => ?_⟩
      refine thr ?_
      refine thr ?_
      exact ⟨_, by tb_rel, h r⟩
    | false =>
      rw [show beside nd.kind = false from hb] at h
      refine br_f rfl ?_
      have hpl : p < t.rows.length := G.pri _ (List.mem_of_getElem? hi) p hp
      refine (fun pn hpn => ?_ : ∀ pn, t.rows[p]? = some pn → _) _ (List.getElem?_eq_getElem hpl)
      have hcl := G.chl _ (List.mem_of_getElem? hpn)
      have hmem := G.mem i nd hi p hp hb
      rw [chs_of hpn] at h hmem
      refine s_nil ?_
      refine t_cons ?_
      refine s_assign ?_
      refine rc_list (by assumption) (by assumption) (by lcg_sub) ?_
      refine m_own ?_
      tlg_ne
      refine met_t 19 (by decide) (by lcg_sub) (by lcg_sub) (by decide) ?_ mN19
      refine a_cons ?_
      tlg_ne
      refine a_nil ?_
      refine CD.cl (children_ok P (by lcg_src) hpn hz (Nat.le_trans hcl (by decide)) (hr'.le (by decide)) fun r => ?_)
      refine b_list (by lcg_sub) (by first | exact len_map_le (len_map_le (by omega)) | exact len_map_le (by omega) | (simp; omega)) fun r2 => ?_
      isplit
      refine t_cons ?_
      refine s_ret ?_
      refine r_slice ?_
      refine r_slice ?_
      tlg_ne
      refine eo_none ?_
      refine eo_some ?_
      refine m_index ?_
      tlg_ne
      refine ⟨_, rfl, ⟨_, by lcg_sub⟩, ?_⟩
      tlg_ne
      refine ⟨nl pn.ch, i, rfl, by lcg_sub, List.mem_map_of_mem hmem, by first | exact len_map_le (len_map_le (by omega)) | exact len_map_le (by omega) | (simp; omega), ?_⟩
      refine eo_none ?_
      rw [nl_idx]
      refine ⟨_, _, _, _, _, rfl, by lcg_sub, rfl, rfl, rfl, by simp, by first | exact len_map_le (len_map_le (by omega)) | exact len_map_le (by omega) | (simp; omega), fun rv => ?_⟩
      rw [pickA_upto, inl_take]
      refine eo_none ?_
      refine eo_none ?_
      refine eo_some ?_
      refine r_negc ?_
      refine ⟨_, _, _, _, _, rfl, by lcg_sub, rfl, rfl, rfl, by simp, by first | exact len_map_le (len_map_le (by omega)) | exact len_map_le (by omega) | (simp; omega), fun rv2 => ?_⟩
      rw [pickA_rev, inl_rev]
      refine thr ?_
      exact ⟨_, by tb_rel, h rv2⟩
end
theorem Forest.split {ch : Nat → List Nat} : ∀ {ds : List Nat} {a b : List Nat}, Forest ch (a ++ b) ds → ∃ d1 d2, ds = d1 ++ d2 ∧ Forest ch a d1 ∧ Forest ch b d2
  | ds, [], b, h => ⟨[], ds, rfl, .nil, h⟩
  | _, i :: r, b, h => by
    cases h with
    | @cons _ _ ds h =>
      have h' : Forest ch ((ch i ++ r) ++ b) ds := by rw [List.append_assoc]; exact h
      obtain ⟨d1, d2, e, h1, h2⟩ := Forest.split h'
      exact ⟨i :: d1, d2, by rw [e]; rfl, .cons h1, h2⟩
noncomputable def TreeA.behindN (t : TreeA) (i : Nat) : List Nat := match t.rows[i]? with
  | some nd => t.behind nd i
  | none => []
noncomputable def TreeA.aheadN (t : TreeA) (i : Nat) : List Nat := match t.rows[i]? with
  | some nd => t.ahead nd i
  | none => []
theorem behindN_of {t : TreeA} {i : Nat} {nd : NodeA} (h : t.rows[i]? = some nd) : t.behindN i = t.behind nd i := by unfold TreeA.behindN; rw [h]
theorem aheadN_of {t : TreeA} {i : Nat} {nd : NodeA} (h : t.rows[i]? = some nd) : t.aheadN i = t.ahead nd i := by unfold TreeA.aheadN; rw [h]
theorem chs_lt {t : TreeA} (G : t.Good) {i k : Nat} (h : k ∈ t.chs i) : k < t.rows.length := by
  unfold TreeA.chs at h
  cases e : t.rows[i]? with
  | none => rw [e] at h; simp at h
  | some nd => rw [e] at h; exact G.chi _ (List.mem_of_getElem? e) k h
theorem behind_lt {t : TreeA} (G : t.Good) {nd : NodeA} {i k : Nat} (h : k ∈ t.behind nd i) : k < t.rows.length := by
  unfold TreeA.behind at h
  split at h
  · simp at h
  · split at h
    · simp at h
    · exact chs_lt G (List.mem_of_mem_drop h)
theorem ahead_lt {t : TreeA} (G : t.Good) {nd : NodeA} {i k : Nat} (h : k ∈ t.ahead nd i) : k < t.rows.length := by
  unfold TreeA.ahead at h
  split at h
  · simp at h
  · split at h
    · simp at h
    · exact chs_lt G (List.mem_of_mem_take (List.mem_reverse.mp h))
theorem chs_len {t : TreeA} (G : t.Good) (i : Nat) : (t.chs i).length ≤ 50 := by
  unfold TreeA.chs
  cases e : t.rows[i]? with
  | none => simp
  | some nd => exact G.chl _ (List.mem_of_getElem? e)
theorem behind_len {t : TreeA} (G : t.Good) (nd : NodeA) (i : Nat) : (t.behind nd i).length ≤ 50 := by
  unfold TreeA.behind
  split
  · simp
  · split
    · simp
    · rw [List.length_drop]; exact Nat.le_trans (Nat.sub_le _ _) (chs_len G _)
theorem ahead_len {t : TreeA} (G : t.Good) (nd : NodeA) (i : Nat) : (t.ahead nd i).length ≤ 50 := by
  unfold TreeA.ahead
  split
  · simp
  · split
    · simp
    · rw [List.length_reverse, List.length_take]; exact Nat.le_trans (Nat.min_le_right _ _) (chs_len G _)
section
variable {Z : Amb} {A : Around} {l : Led} {X : Value → Shared → Prop}
theorem withDesc_ok (P : PX Z) {t : TreeA} {a : Addr} {ns ds : List Nat} {Q : AV → Led → Prop} (hT : In (treeLed P t) l) (G : t.Good) (ha : (a, .list (inl ns)) ∈ l) (hns : ∀ k ∈ ns, k < t.rows.length) (hnl : ns.length ≤ 100) (hF : Forest t.chs ns ds) (hd : ds.length ≤ 100) (hr : Room A 8)
    (h : ∀ r, Q (.ref r) ((r, .list (inl ds)) :: l)) : CD Z A (.ref (P.fa 7)) [.ref t.x, .ref a] l Q X := by
  have m1 := tree_in1 hT
  have m2 := tree_in2 hT
  have m3 := tree_in3 hT
  have hz : t.rows.length ≤ 100 := Nat.le_trans G.size (by decide)
  refine cd_fn (P.fdef 7 (by decide)).1 (m := [("tree", some (.ref t.x)), ("nodes", some (.ref a)), ("found", none), ("node", none)]) (names := [("tree", .local), ("nodes", .local), ("found", .local), ("node", .local), ("descendants", .globalImplicit)]) (ps := ["tree", "nodes"]) (others := ["found", "node"]) rfl rfl (fun doc pm cdv ct => bind2 fun v0 v1 => rfl) (by decide) rfl (k := 7) hr ?_
  intro env L A' hE hr'
  refine s_cons ?_
  refine s_assign ?_
  refine r_list ?_
  refine a_nil ?_
  refine ⟨by decide, fun fo => ?_⟩
  isplit
  refine t_cons ?_
  refine s_for ?_
  tlg_ne
  refine iter_list (by lcg_sub) fun it => ?_
  refine inv_sb43 (fun i vn dn ds' => ns.length - i) (fun i vn dn ds' => i ≤ ns.length) (fun i vn dn ds' => Forest t.chs (ns.drop i) ds') (fun i vn dn ds' => dn ++ ds' = ds) (fun i vn dn ds' => (it, .liter a i) :: (fo, .list (inl dn)) :: (L, .frame [("tree", some (.ref t.x)), ("nodes", some (.ref a)), ("found", some (.ref fo)), ("node", vn)]) :: l) 0 none [] ds Sb.refl (Nat.zero_le _) hF rfl fun J (hNi : ∀ i vn dn ds', i ≤ ns.length → Forest t.chs (ns.drop i) ds' → dn ++ ds' = ds → J (ns.length - i) ((it, .liter a i) :: (fo, .list (inl dn)) :: (L, .frame [("tree", some (.ref t.x)), ("nodes", some (.ref a)), ("found", some (.ref fo)), ("node", vn)]) :: l)) i vn dn ds' (hil : i ≤ ns.length) (hF' : Forest t.chs (ns.drop i) ds') (e : dn ++ ds' = ds) => (?_ : TurnK Z _ _ ((it, .liter a i) :: (fo, .list (inl dn)) :: (L, .frame [("tree", some (.ref t.x)), ("nodes", some (.ref a)), ("found", some (.ref fo)), ("node", vn)]) :: l) _ _ _)
  have hl : dn.length + ds'.length = ds.length := by rw [← e, List.length_append]
  by_cases hlt : i < ns.length
  · right
    refine ⟨.int ns[i], _, next_list (by krn_off) (by lcg_sub) (by simp [hlt]), ?_⟩
    have hk := hns _ (List.getElem_mem hlt)
    refine (fun kn hkn => ?_ : ∀ kn, t.rows[ns[i]]? = some kn → _) _ (List.getElem?_eq_getElem hk)
    rw [List.drop_eq_getElem_cons hlt] at hF'
    cases hF' with
    | @cons _ _ ds2 hF2 =>
      obtain ⟨d1, d2, e2, f1, f2⟩ := hF2.split
      subst e2
      simp only [List.length_cons, List.length_append] at hl
      rw [chs_of hkn] at f1
      isplit
      refine s_cons ?_
      refine s_expr (by assumption) ?_
      refine m_append ?_
      tlg_ne
      refine ⟨_, rfl, ⟨_, by lcg_sub⟩, ?_⟩
      tlg_ne
      refine ⟨_, _, by krn_off, by first | exact len_map_le (len_map_le (by omega)) | exact len_map_le (by omega) | (simp; omega), ?_⟩
      refine t_cons ?_
      refine s_expr (by assumption) ?_
      refine m_extend ?_
      tlg_ne
      refine ⟨_, rfl, ⟨_, by lcg_sub⟩, ?_⟩
      refine r_callf (by assumption) 3 (by decide) (by assumption) (by lcg_sub) ?_ fN3
      refine a_cons ?_
      tlg_ne
      refine a_cons ?_
      tlg_ne
      refine a_nil ?_
      refine CD.cl (descendants_ok P (by lcg_src) G hkn f1 (by omega) (hr'.le (by decide)) fun r => ?_)
      refine ⟨_, _, _, _, rfl, by lcg_sub, by krn_off, by first | exact len_map_le (len_map_le (by omega)) | exact len_map_le (by omega) | (simp; omega), by first | exact len_map_le (len_map_le (by omega)) | exact len_map_le (by omega) | (simp; omega), ?_⟩
      refine t_nil ?_
      refine ⟨_, _, dec_lt hlt, ?_, hNi (i + 1) (some (.int ns[i])) (dn ++ ns[i] :: d1) d2 hlt f2 (by rw [← e]; simp)⟩
      rw [show dn ++ ns[i] :: d1 = (dn ++ [ns[i]]) ++ d1 by simp, inl_app, inl_snoc]
      tb_rel
  · left
    refine ⟨_, end_list hr'.hh (by lcg_sub) (by lcg_sub) (by first | exact len_map_le (len_map_le (by omega)) | exact len_map_le (by omega) | (simp; omega)) (by lcg_off) (by simp), ?_⟩
    have : ns.drop i = [] := List.drop_of_length_le (by omega)
    rw [this] at hF'
    cases hF'
    simp only [List.append_nil] at e
    subst e
    refine t_cons ?_
    refine s_ret ?_
    tlg_ne
    refine thr ?_
    exact ⟨_, by tb_rel, h fo⟩
inductive FolR (t : TreeA) : List Nat → List Nat → Prop
  | nil : FolR t [] []
  | cons {h : Nat} {r ds fs : List Nat} : Forest t.chs (t.behindN h) ds → FolR t r fs → FolR t (h :: r) (ds ++ fs)
inductive Following (t : TreeA) (i : Nat) : List Nat → Prop
  | plain {as out : List Nat} : beside (t.kinds i) = false → Chain t.pars (t.pars i) as → FolR t (i :: as) out → Following t i out
  | loose : beside (t.kinds i) = true → t.pars i = none → Following t i []
  | within {p : Nat} {as ds fs : List Nat} : beside (t.kinds i) = true → t.pars i = some p → Forest t.chs (t.chs p) ds → Chain t.pars (t.pars p) as → FolR t (p :: as) fs → Following t i (ds ++ fs)
theorem Chain.lt {t : TreeA} (G : t.Good) {o : Option Nat} {as : List Nat} (h : Chain t.pars o as) (ho : ∀ k, o = some k → k < t.rows.length) : ∀ k ∈ as, k < t.rows.length := by
  induction h with
  | nil => simp
  | @cons p as _ ih =>
    intro k hk
    rcases List.mem_cons.mp hk with rfl | hk
    · exact ho _ rfl
    · refine ih (fun j hj => ?_) k hk
      refine (fun pn hpn => ?_ : ∀ pn, t.rows[p]? = some pn → _) _ (List.getElem?_eq_getElem (ho p rfl))
      rw [pars_of hpn] at hj
      exact G.pri _ (List.mem_of_getElem? hpn) j hj
end
section
variable {Z : Amb} {A : Around} {l : Led} {X : Value → Shared → Prop}
theorem following_loop (P : PX Z) {env : Env} {L : Addr} {t : TreeA} {i : Nat} {nd : NodeA} {as ds0 fs : List Nat} {fo : Addr} {Q : AV → Led → Prop} (hT : In (treeLed P t) l) (G : t.Good) (hi : t.rows[i]? = some nd) (hr' : Room A 9)
    (hE : EnvIs env L [("tree", .local), ("node", .local), ("found", .local), ("here", .local), ("is_beside", .globalImplicit), ("descendants", .globalImplicit), ("ancestors", .globalImplicit), ("with_descendants", .globalImplicit), ("siblings_behind", .globalImplicit)] [])
    (hC : Chain t.pars nd.par as) (has : as.length ≤ 90) (hR : FolR t (i :: as) fs) (hl : (ds0 ++ fs).length ≤ 100)
    (h : ∀ r, Q (.ref r) ((r, .list (inl (ds0 ++ fs))) :: l)) :
    SV Z A env ((fdB (stAt 8)).drop 2) ((fo, .list (inl ds0)) :: (L, .frame [("tree", some (.ref t.x)), ("node", some (.int i)), ("found", some (.ref fo)), ("here", none)]) :: l) (fun fl => Up (Q (retOf fl))) noX := by
  have m1 := tree_in1 hT
  have m2 := tree_in2 hT
  have m3 := tree_in3 hT
  have hz : t.rows.length ≤ 100 := Nat.le_trans G.size (by decide)
  have hlt : ∀ k ∈ i :: as, k < t.rows.length := by
    intro k hk
    rcases List.mem_cons.mp hk with rfl | hk
    · exact (List.getElem?_eq_some_iff.mp hi).1
    · exact hC.lt G (G.pri _ (List.mem_of_getElem? hi)) k hk
  refine s_cons ?_
  refine s_for ?_
  refine r_binop ?_
  refine r_list ?_
  refine a_cons ?_
  tlg_ne
  refine a_nil ?_
  refine ⟨by simp, fun a1 => ?_⟩
  refine r_callf (by assumption) 4 (by decide) (by assumption) (by lcg_sub) ?_ fN4
  refine a_cons ?_
  tlg_ne
  refine a_cons ?_
  tlg_ne
  refine a_nil ?_
  refine CD.cl (ancestors_ok P (by lcg_src) G hi hC (by omega) (hr'.le (by decide)) fun a2 => ?_)
  refine o_addl (xs := inl [i]) (ys := inl as) (.tail _ (.head _)) (by lcg_sub) (by simp) (by first | exact len_map_le (len_map_le (by omega)) | exact len_map_le (by omega) | (simp; omega)) fun a3 => ?_
  rw [← inl_app, List.singleton_append]
  refine iter_list (by lcg_sub) fun it => ?_
  refine inv_sb43 (fun j vn dn fs' => (i :: as).length - j) (fun j vn dn fs' => j ≤ (i :: as).length) (fun j vn dn fs' => FolR t ((i :: as).drop j) fs') (fun j vn dn fs' => dn ++ fs' = ds0 ++ fs) (fun j vn dn fs' => (it, .liter a3 j) :: (a3, .list (inl (i :: as))) :: (fo, .list (inl dn)) :: (L, .frame [("tree", some (.ref t.x)), ("node", some (.int i)), ("found", some (.ref fo)), ("here", vn)]) :: l) 0 none ds0 fs (show Sb ((it, .liter a3 0) :: (a3, .list (inl (i :: as))) :: (fo, .list (inl ds0)) :: (L, .frame [("tree", some (.ref t.x)), ("node", some (.int i)), ("found", some (.ref fo)), ("here", none)]) :: l) _ from by tb_rel) (Nat.zero_le _) hR rfl fun J (hNj : ∀ j vn dn fs', j ≤ (i :: as).length → FolR t ((i :: as).drop j) fs' → dn ++ fs' = ds0 ++ fs → J ((i :: as).length - j) ((it, .liter a3 j) :: (a3, .list (inl (i :: as))) :: (fo, .list (inl dn)) :: (L, .frame [("tree", some (.ref t.x)), ("node", some (.int i)), ("found", some (.ref fo)), ("here", vn)]) :: l)) j vn dn fs' (hjl : j ≤ (i :: as).length) (hF' : FolR t ((i :: as).drop j) fs') (e : dn ++ fs' = ds0 ++ fs) => (?_ : TurnK Z _ _ ((it, .liter a3 j) :: (a3, .list (inl (i :: as))) :: (fo, .list (inl dn)) :: (L, .frame [("tree", some (.ref t.x)), ("node", some (.int i)), ("found", some (.ref fo)), ("here", vn)]) :: l) _ _ _)
  have hl' : dn.length + fs'.length = (ds0 ++ fs).length := by rw [← e, List.length_append]
  by_cases hj : j < (i :: as).length
  · right
    refine ⟨.int (i :: as)[j], _, next_list (by krn_off) (by lcg_sub) ?_, ?_⟩
    · rw [List.getElem?_map, List.getElem?_map, List.getElem?_eq_getElem hj]; rfl
    have hk := hlt _ (List.getElem_mem hj)
    generalize hkk : (i :: as)[j] = k at hk ⊢
    refine (fun kn hkn => ?_ : ∀ kn, t.rows[k]? = some kn → _) _ (List.getElem?_eq_getElem hk)
    rw [List.drop_eq_getElem_cons hj, hkk] at hF'
    cases hF' with
    | @cons _ _ d1 f2 hd hr2 =>
      rw [behindN_of hkn] at hd
      simp only [List.length_append] at hl' hl
      isplit
      refine s_cons ?_
      refine s_expr (by assumption) ?_
      refine m_extend ?_
      tlg_ne
      refine ⟨_, rfl, ⟨_, by lcg_sub⟩, ?_⟩
      refine r_callf (by assumption) 7 (by decide) (by assumption) (by lcg_sub) ?_ fN7
      refine a_cons ?_
      tlg_ne
      refine a_cons ?_
      refine r_callf (by assumption) 6 (by decide) (by assumption) (by lcg_sub) ?_ fN6
      refine a_cons ?_
      tlg_ne
      refine a_cons ?_
      tlg_ne
      refine a_nil ?_
      refine CD.cl (siblingsBehind_ok P (by lcg_src) G hkn (hr'.le (by decide)) fun r => ?_)
      refine a_nil ?_
      refine CD.cl (withDesc_ok P (by lcg_src) G (by lcg_sub) (fun q hq => behind_lt G hq) (Nat.le_trans (behind_len G _ _) (by decide)) hd (by omega) (hr'.le (by decide)) fun r2 => ?_)
      refine ⟨_, _, _, _, rfl, by lcg_sub, by krn_off, by first | exact len_map_le (len_map_le (by omega)) | exact len_map_le (by omega) | (simp; omega), by first | exact len_map_le (len_map_le (by omega)) | exact len_map_le (by omega) | (simp; omega), ?_⟩
      refine t_nil ?_
      refine ⟨_, _, dec_lt hj, ?_, hNj (j + 1) (some (.int k)) (dn ++ d1) f2 hj hr2 (by rw [← e]; simp)⟩
      rw [inl_app]
      tb_rel
  · left
    refine ⟨_, end_list hr'.hh (by lcg_sub) (by lcg_sub) (by simp at hj ⊢; omega) (by lcg_off) (by simp), ?_⟩
    have : (i :: as).drop j = [] := List.drop_of_length_le (by omega)
    rw [this] at hF'
    cases hF'
    simp only [List.append_nil] at e
    subst e
    refine t_cons ?_
    refine s_ret ?_
    tlg_ne
    refine thr ?_
    exact ⟨_, by tb_rel, h fo⟩
theorem following_ok (P : PX Z) {t : TreeA} {i : Nat} {nd : NodeA} {out : List Nat} {Q : AV → Led → Prop} (hT : In (treeLed P t) l) (G : t.Good) (hi : t.rows[i]? = some nd) (hF : Following t i out) (hal : ∀ o as, Chain t.pars o as → as.length ≤ 90) (hl : out.length ≤ 100) (hr : Room A 10)
    (h : ∀ r, Q (.ref r) ((r, .list (inl out)) :: l)) : CD Z A (.ref (P.fa 8)) [.ref t.x, .int i] l Q X := by
  have m1 := tree_in1 hT
  have m2 := tree_in2 hT
  have m3 := tree_in3 hT
  have hz : t.rows.length ≤ 100 := Nat.le_trans G.size (by decide)
  refine cd_fn (P.fdef 8 (by decide)).1 (m := [("tree", some (.ref t.x)), ("node", some (.int i)), ("found", none), ("here", none)]) (names := [("tree", .local), ("node", .local), ("found", .local), ("here", .local), ("is_beside", .globalImplicit), ("descendants", .globalImplicit), ("ancestors", .globalImplicit), ("with_descendants", .globalImplicit), ("siblings_behind", .globalImplicit)]) (ps := ["tree", "node"]) (others := ["found", "here"]) rfl rfl (fun doc pm cdv ct => bind2 fun v0 v1 => rfl) (by decide) rfl (k := 9) hr ?_
  intro env L A' hE hr'
  refine s_cons ?_
  refine s_assign ?_
  refine r_list ?_
  refine a_nil ?_
  refine ⟨by decide, fun fo => ?_⟩
  isplit
  refine t_cons ?_
  refine s_if ?_
  refine t_call ?_
  refine r_callf (by assumption) 2 (by decide) (by assumption) (by lcg_sub) ?_ fN2
  refine a_cons ?_
  tlg_ne
  refine a_cons ?_
  tlg_ne
  refine a_nil ?_
  refine CD.cl (isBeside_ok P (by lcg_src) G hi (hr'.le (by decide)) ?_)
  refine ⟨_, rfl, ?_⟩
  cases hF with
  | @plain as out hb hC hR =>
    rw [kinds_of hi] at hb
    rw [pars_of hi] at hC
    refine br_f hb ?_
    refine s_nil ?_
    refine thn ?_
    exact following_loop P (ds0 := []) hT G hi hr' hE hC (hal _ _ hC) hR hl h
  | loose hb hp =>
    rw [kinds_of hi] at hb
    rw [pars_of hi] at hp
    refine br_t hb ?_
    refine s_cons ?_
    refine s_assign ?_
    refine m_own ?_
    tlg_ne
    refine met_t 18 (by decide) (by lcg_sub) (by lcg_sub) (by decide) ?_ mN18
    refine a_cons ?_
    tlg_ne
    refine a_nil ?_
    refine CD.cl (get_ok P (j := 18) (by decide) (by lcg_src) hi hz (hr'.le (by decide)) (by simp) (by simp) (by simp) (fun _ => ?_))
    rw [hp]
    isplit
    refine t_cons ?_
    refine s_if ?_
    refine t_cmp ?_
    tlg_ne
    refine r_none ?_
    refine c_is rfl (br_t rfl ?_)
    refine s_cons ?_
    refine s_ret ?_
    refine r_list ?_
    refine a_nil ?_
    refine ⟨by decide, fun r => ?_⟩
    refine thr ?_
    refine thr ?_
    refine thr ?_
    exact ⟨_, by tb_rel, h r⟩
  | @within p as ds fs hb hp hD hC hR =>
    rw [kinds_of hi] at hb
    rw [pars_of hi] at hp
    refine br_t hb ?_
    have hpl : p < t.rows.length := G.pri _ (List.mem_of_getElem? hi) p hp
    refine (fun pn hpn => ?_ : ∀ pn, t.rows[p]? = some pn → _) _ (List.getElem?_eq_getElem hpl)
    rw [chs_of hpn] at hD
    rw [pars_of hpn] at hC
    have hl' : ds.length + fs.length ≤ 100 := by rw [← List.length_append]; exact hl
    refine s_cons ?_
    refine s_assign ?_
    refine m_own ?_
    tlg_ne
    refine met_t 18 (by decide) (by lcg_sub) (by lcg_sub) (by decide) ?_ mN18
    refine a_cons ?_
    tlg_ne
    refine a_nil ?_
    refine CD.cl (get_ok P (j := 18) (by decide) (by lcg_src) hi hz (hr'.le (by decide)) (by simp) (by simp) (by simp) (fun _ => ?_))
    rw [hp]
    isplit
    refine t_cons ?_
    refine s_if ?_
    refine t_cmp ?_
    tlg_ne
    refine r_none ?_
    refine c_is rfl (br_f rfl ?_)
    refine s_nil ?_
    refine t_cons ?_
    refine s_assign ?_
    refine r_callf (by assumption) 3 (by decide) (by assumption) (by lcg_sub) ?_ fN3
    refine a_cons ?_
    tlg_ne
    refine a_cons ?_
    tlg_ne
    refine a_nil ?_
    refine CD.cl (descendants_ok P (by lcg_src) G hpn hD (by omega) (hr'.le (by decide)) fun r => ?_)
    isplit
    refine thn ?_
    refine s_nil ?_
    refine thn ?_
    refine TR.subperm (l2 := (r, .list (inl ds)) :: (L, .frame [("tree", some (.ref t.x)), ("node", some (.int p)), ("found", some (.ref r)), ("here", none)]) :: l) ?_ (by tb_rel)
    exact following_loop P hT G hpn hr' hE hC (hal _ _ hC) hR hl h
end
inductive BackR (ch : Nat → List Nat) : List Nat → List Nat → Prop
  | nil : BackR ch [] []
  | cons {c : Nat} {r ds fs : List Nat} : Forest ch [c] ds → BackR ch r fs → BackR ch (c :: r) (ds.reverse ++ fs)
inductive PreR (t : TreeA) : List Nat → List Nat → Prop
  | nil : PreR t [] []
  | cons {h : Nat} {r ds fs : List Nat} : BackR t.chs (t.aheadN h) ds → PreR t r fs → PreR t (h :: r) (ds ++ fs)
inductive Preceding (t : TreeA) (i : Nat) : List Nat → Prop
  | plain {as out : List Nat} : beside (t.kinds i) = false → Chain t.pars (t.pars i) as → PreR t (i :: as) out → Preceding t i out
  | loose : beside (t.kinds i) = true → t.pars i = none → Preceding t i []
  | within {p : Nat} {as fs : List Nat} : beside (t.kinds i) = true → t.pars i = some p → Chain t.pars (t.pars p) as → PreR t (p :: as) fs → Preceding t i fs
section
variable {Z : Amb} {A : Around} {l : Led} {X : Value → Shared → Prop}
theorem preceding_loop (P : PX Z) {env : Env} {L : Addr} {t : TreeA} {i : Nat} {nd : NodeA} {as fs : List Nat} {Q : AV → Led → Prop} (hT : In (treeLed P t) l) (G : t.Good) (hi : t.rows[i]? = some nd) (hr' : Room A 9)
    (hE : EnvIs env L [("tree", .local), ("node", .local), ("found", .local), ("here", .local), ("sibling", .local), ("is_beside", .globalImplicit), ("ancestors", .globalImplicit), ("siblings_ahead", .globalImplicit), ("with_descendants", .globalImplicit)] [])
    (hC : Chain t.pars nd.par as) (has : as.length ≤ 90) (hR : PreR t (i :: as) fs) (hl : fs.length ≤ 100)
    (h : ∀ r, Q (.ref r) ((r, .list (inl fs)) :: l)) :
    SV Z A env ((fdB (stAt 9)).drop 1) ((L, .frame [("tree", some (.ref t.x)), ("node", some (.int i)), ("found", none), ("here", none), ("sibling", none)]) :: l) (fun fl => Up (Q (retOf fl))) noX := by
  have m1 := tree_in1 hT
  have m2 := tree_in2 hT
  have m3 := tree_in3 hT
  have hz : t.rows.length ≤ 100 := Nat.le_trans G.size (by decide)
  have hlt : ∀ k ∈ i :: as, k < t.rows.length := by
    intro k hk
    rcases List.mem_cons.mp hk with rfl | hk
    · exact (List.getElem?_eq_some_iff.mp hi).1
    · exact hC.lt G (G.pri _ (List.mem_of_getElem? hi)) k hk
  refine s_cons ?_
  refine s_assign ?_
  refine r_list ?_
  refine a_nil ?_
  refine ⟨by decide, fun fo => ?_⟩
  isplit
  refine t_cons ?_
  refine s_for ?_
  refine r_binop ?_
  refine r_list ?_
  refine a_cons ?_
  tlg_ne
  refine a_nil ?_
  refine ⟨by simp, fun a1 => ?_⟩
  refine r_callf (by assumption) 4 (by decide) (by assumption) (by lcg_sub) ?_ fN4
  refine a_cons ?_
  tlg_ne
  refine a_cons ?_
  tlg_ne
  refine a_nil ?_
  refine CD.cl (ancestors_ok P (by lcg_src) G hi hC (by omega) (hr'.le (by decide)) fun a2 => ?_)
  refine o_addl (xs := inl [i]) (ys := inl as) (.tail _ (.head _)) (by lcg_sub) (by simp) (by first | exact len_map_le (len_map_le (by omega)) | exact len_map_le (by omega) | (simp; omega)) fun a3 => ?_
  rw [← inl_app, List.singleton_append]
  refine iter_list (by lcg_sub) fun it => ?_
  refine inv_sb53 (fun j vn sn dn fs' => (i :: as).length - j) (fun j vn sn dn fs' => j ≤ (i :: as).length) (fun j vn sn dn fs' => PreR t ((i :: as).drop j) fs') (fun j vn sn dn fs' => dn ++ fs' = fs) (fun j vn sn dn fs' => (it, .liter a3 j) :: (a3, .list (inl (i :: as))) :: (fo, .list (inl dn)) :: (L, .frame [("tree", some (.ref t.x)), ("node", some (.int i)), ("found", some (.ref fo)), ("here", vn), ("sibling", sn)]) :: l) 0 none none [] fs (show Sb ((it, .liter a3 0) :: (a3, .list (inl (i :: as))) :: (fo, .list (inl [])) :: (L, .frame [("tree", some (.ref t.x)), ("node", some (.int i)), ("found", some (.ref fo)), ("here", none), ("sibling", none)]) :: l) _ from by tb_rel) (Nat.zero_le _) hR rfl fun J (hNj : ∀ j vn sn dn fs', j ≤ (i :: as).length → PreR t ((i :: as).drop j) fs' → dn ++ fs' = fs → J ((i :: as).length - j) ((it, .liter a3 j) :: (a3, .list (inl (i :: as))) :: (fo, .list (inl dn)) :: (L, .frame [("tree", some (.ref t.x)), ("node", some (.int i)), ("found", some (.ref fo)), ("here", vn), ("sibling", sn)]) :: l)) j vn sn dn fs' (hjl : j ≤ (i :: as).length) (hF' : PreR t ((i :: as).drop j) fs') (e : dn ++ fs' = fs) => (?_ : TurnK Z _ _ ((it, .liter a3 j) :: (a3, .list (inl (i :: as))) :: (fo, .list (inl dn)) :: (L, .frame [("tree", some (.ref t.x)), ("node", some (.int i)), ("found", some (.ref fo)), ("here", vn), ("sibling", sn)]) :: l) _ _ _)
  have hl' : dn.length + fs'.length = fs.length := by rw [← e, List.length_append]
  by_cases hj : j < (i :: as).length
  · right
    refine ⟨.int (i :: as)[j], _, next_list (by krn_off) (by lcg_sub) ?_, ?_⟩
    · rw [List.getElem?_map, List.getElem?_map, List.getElem?_eq_getElem hj]; rfl
    have hk := hlt _ (List.getElem_mem hj)
    generalize hkk : (i :: as)[j] = k at hk ⊢
    refine (fun kn hkn => ?_ : ∀ kn, t.rows[k]? = some kn → _) _ (List.getElem?_eq_getElem hk)
    rw [List.drop_eq_getElem_cons hj, hkk] at hF'
    cases hF' with
    | @cons _ _ d1 f2 hd hr2 =>
      rw [aheadN_of hkn] at hd
      simp only [List.length_append] at hl'
      isplit
      refine s_cons ?_
      refine s_for ?_
      refine r_callf (by assumption) 5 (by decide) (by assumption) (by lcg_sub) ?_ fN5
      refine a_cons ?_
      tlg_ne
      refine a_cons ?_
      tlg_ne
      refine a_nil ?_
      refine CD.cl (siblingsAhead_ok P (by lcg_src) G hkn (hr'.le (by decide)) fun r => ?_)
      refine iter_list (by lcg_sub) fun it2 => ?_
      refine inv_sb43 (fun q sn dn2 ds' => (t.ahead kn k).length - q) (fun q sn dn2 ds' => q ≤ (t.ahead kn k).length) (fun q sn dn2 ds' => BackR t.chs ((t.ahead kn k).drop q) ds') (fun q sn dn2 ds' => dn2 ++ ds' = dn ++ d1) (fun q sn dn2 ds' => (it2, .liter r q) :: (r, .list (inl (t.ahead kn k))) :: (it, .liter a3 (j + 1)) :: (a3, .list (inl (i :: as))) :: (fo, .list (inl dn2)) :: (L, .frame [("tree", some (.ref t.x)), ("node", some (.int i)), ("found", some (.ref fo)), ("here", some (.int k)), ("sibling", sn)]) :: l) 0 sn dn d1 (show Sb ((it2, .liter r 0) :: (r, .list (inl (t.ahead kn k))) :: (it, .liter a3 (j + 1)) :: (a3, .list (inl (i :: as))) :: (fo, .list (inl dn)) :: (L, .frame [("tree", some (.ref t.x)), ("node", some (.int i)), ("found", some (.ref fo)), ("here", some (.int k)), ("sibling", sn)]) :: l) _ from by tb_rel) (Nat.zero_le _) hd rfl fun J (hNq : ∀ q sn dn2 ds', q ≤ (t.ahead kn k).length → BackR t.chs ((t.ahead kn k).drop q) ds' → dn2 ++ ds' = dn ++ d1 → J ((t.ahead kn k).length - q) ((it2, .liter r q) :: (r, .list (inl (t.ahead kn k))) :: (it, .liter a3 (j + 1)) :: (a3, .list (inl (i :: as))) :: (fo, .list (inl dn2)) :: (L, .frame [("tree", some (.ref t.x)), ("node", some (.int i)), ("found", some (.ref fo)), ("here", some (.int k)), ("sibling", sn)]) :: l)) q sn dn2 ds' (hql : q ≤ (t.ahead kn k).length) (hB : BackR t.chs ((t.ahead kn k).drop q) ds') (e2 : dn2 ++ ds' = dn ++ d1) => (?_ : TurnK Z _ _ ((it2, .liter r q) :: (r, .list (inl (t.ahead kn k))) :: (it, .liter a3 (j + 1)) :: (a3, .list (inl (i :: as))) :: (fo, .list (inl dn2)) :: (L, .frame [("tree", some (.ref t.x)), ("node", some (.int i)), ("found", some (.ref fo)), ("here", some (.int k)), ("sibling", sn)]) :: l) _ _ _)
      have hl2 : dn2.length + ds'.length = dn.length + d1.length := by rw [← List.length_append, e2, List.length_append]
      have hal := ahead_len G kn k
      by_cases hq : q < (t.ahead kn k).length
      · right
        refine ⟨.int (t.ahead kn k)[q], _, next_list (by krn_off) (by lcg_sub) (by simp [hq]), ?_⟩
        have hc := ahead_lt G (List.getElem_mem hq)
        generalize hcc : (t.ahead kn k)[q] = c at hc ⊢
        rw [List.drop_eq_getElem_cons hq, hcc] at hB
        cases hB with
        | @cons _ _ dd ff hD hr3 =>
          simp only [List.length_append, List.length_reverse] at hl2
          isplit
          refine s_cons ?_
          refine s_expr (by assumption) ?_
          refine m_extend ?_
          tlg_ne
          refine ⟨_, rfl, ⟨_, by lcg_sub⟩, ?_⟩
          refine r_slice ?_
          refine r_callf (by assumption) 7 (by decide) (by assumption) (by lcg_sub) ?_ fN7
          refine a_cons ?_
          tlg_ne
          refine a_cons ?_
          refine r_list ?_
          refine a_cons ?_
          tlg_ne
          refine a_nil ?_
          refine ⟨by simp, fun b1 => ?_⟩
          refine a_nil ?_
          refine CD.cl (withDesc_ok P (ns := [c]) (by lcg_src) G (.head _) (by simpa using hc) (by simp) hD (by omega) (hr'.le (by decide)) fun b2 => ?_)
          refine eo_none ?_
          refine eo_none ?_
          refine eo_some ?_
          refine r_negc ?_
          refine ⟨_, _, _, _, _, rfl, by lcg_sub, rfl, rfl, rfl, by decide, by first | exact len_map_le (len_map_le (by omega)) | exact len_map_le (by omega) | (simp; omega), fun b3 => ?_⟩
          rw [pickA_rev_il]
          refine ⟨_, _, _, _, rfl, by lcg_sub, by krn_off, by first | exact len_map_le (len_map_le (by omega)) | exact len_map_le (by omega) | (simp; omega), by first | exact len_map_le (len_map_le (by omega)) | exact len_map_le (by omega) | (simp; omega), ?_⟩
          refine t_nil ?_
          refine ⟨_, _, dec_lt hq, ?_, hNq (q + 1) (some (.int c)) (dn2 ++ dd.reverse) ff hq hr3 (by rw [← e2]; simp)⟩
          rw [inl_app]
          tb_rel
      · left
        refine ⟨_, end_list hr'.hh (by lcg_sub) (by lcg_sub) (by simp at hq ⊢; omega) (by lcg_off) (by simp), ?_⟩
        have : (t.ahead kn k).drop q = [] := List.drop_of_length_le (by omega)
        rw [this] at hB
        cases hB
        simp only [List.append_nil] at e2
        subst e2
        refine t_nil ?_
        exact ⟨_, _, dec_lt hj, (by tb_rel), hNj (j + 1) (some (.int k)) sn (dn ++ d1) f2 hj hr2 (by rw [← e]; simp)⟩
  · left
    refine ⟨_, end_list hr'.hh (by lcg_sub) (by lcg_sub) (by simp at hj ⊢; omega) (by lcg_off) (by simp), ?_⟩
    have : (i :: as).drop j = [] := List.drop_of_length_le (by omega)
    rw [this] at hF'
    cases hF'
    simp only [List.append_nil] at e
    subst e
    refine t_cons ?_
    refine s_ret ?_
    tlg_ne
    refine thr ?_
    exact ⟨_, by tb_rel, h fo⟩
theorem preceding_ok (P : PX Z) {t : TreeA} {i : Nat} {nd : NodeA} {out : List Nat} {Q : AV → Led → Prop} (hT : In (treeLed P t) l) (G : t.Good) (hi : t.rows[i]? = some nd) (hF : Preceding t i out) (hal : ∀ o as, Chain t.pars o as → as.length ≤ 90) (hl : out.length ≤ 100) (hr : Room A 10)
    (h : ∀ r, Q (.ref r) ((r, .list (inl out)) :: l)) : CD Z A (.ref (P.fa 9)) [.ref t.x, .int i] l Q X := by
  have m1 := tree_in1 hT
  have m2 := tree_in2 hT
  have m3 := tree_in3 hT
  have hz : t.rows.length ≤ 100 := Nat.le_trans G.size (by decide)
  refine cd_fn (P.fdef 9 (by decide)).1 (m := [("tree", some (.ref t.x)), ("node", some (.int i)), ("found", none), ("here", none), ("sibling", none)]) (names := [("tree", .local), ("node", .local), ("found", .local), ("here", .local), ("sibling", .local), ("is_beside", .globalImplicit), ("ancestors", .globalImplicit), ("siblings_ahead", .globalImplicit), ("with_descendants", .globalImplicit)]) (ps := ["tree", "node"]) (others := ["found", "here", "sibling"]) rfl rfl (fun doc pm cdv ct => bind2 fun v0 v1 => rfl) (by decide) rfl (k := 9) hr ?_
  intro env L A' hE hr'
  refine s_cons ?_
  refine s_if ?_
  refine t_call ?_
  refine r_callf (by assumption) 2 (by decide) (by assumption) (by lcg_sub) ?_ fN2
  refine a_cons ?_
  tlg_ne
  refine a_cons ?_
  tlg_ne
  refine a_nil ?_
  refine CD.cl (isBeside_ok P (by lcg_src) G hi (hr'.le (by decide)) ?_)
  refine ⟨_, rfl, ?_⟩
  cases hF with
  | @plain as out hb hC hR =>
    rw [kinds_of hi] at hb
    rw [pars_of hi] at hC
    refine br_f hb ?_
    refine s_nil ?_
    refine thn ?_
    refine TR.subperm (l2 := (L, .frame [("tree", some (.ref t.x)), ("node", some (.int i)), ("found", none), ("here", none), ("sibling", none)]) :: l) ?_ (by tb_rel)
    exact preceding_loop P hT G hi hr' hE hC (hal _ _ hC) hR hl h
  | loose hb hp =>
    rw [kinds_of hi] at hb
    rw [pars_of hi] at hp
    refine br_t hb ?_
    refine s_cons ?_
    refine s_assign ?_
    refine m_own ?_
    tlg_ne
    refine met_t 18 (by decide) (by lcg_sub) (by lcg_sub) (by decide) ?_ mN18
    refine a_cons ?_
    tlg_ne
    refine a_nil ?_
    refine CD.cl (get_ok P (j := 18) (by decide) (by lcg_src) hi hz (hr'.le (by decide)) (by simp) (by simp) (by simp) (fun _ => ?_))
    rw [hp]
    isplit
    refine t_cons ?_
    refine s_if ?_
    refine t_cmp ?_
    tlg_ne
    refine r_none ?_
    refine c_is rfl (br_t rfl ?_)
    refine s_cons ?_
    refine s_ret ?_
    refine r_list ?_
    refine a_nil ?_
    refine ⟨by decide, fun r => ?_⟩
    refine thr ?_
    refine thr ?_
    refine thr ?_
    exact ⟨_, by tb_rel, h r⟩
  | @within p as fs hb hp hC hR =>
    rw [kinds_of hi] at hb
    rw [pars_of hi] at hp
    refine br_t hb ?_
    have hpl : p < t.rows.length := G.pri _ (List.mem_of_getElem? hi) p hp
    refine (fun pn hpn => ?_ : ∀ pn, t.rows[p]? = some pn → _) _ (List.getElem?_eq_getElem hpl)
    rw [pars_of hpn] at hC
    refine s_cons ?_
    refine s_assign ?_
    refine m_own ?_
    tlg_ne
    refine met_t 18 (by decide) (by lcg_sub) (by lcg_sub) (by decide) ?_ mN18
    refine a_cons ?_
    tlg_ne
    refine a_nil ?_
    refine CD.cl (get_ok P (j := 18) (by decide) (by lcg_src) hi hz (hr'.le (by decide)) (by simp) (by simp) (by simp) (fun _ => ?_))
    rw [hp]
    isplit
    refine t_cons ?_
    refine s_if ?_
    refine t_cmp ?_
    tlg_ne
    refine r_none ?_
    refine c_is rfl (br_f rfl ?_)
    refine s_nil ?_
    refine thn ?_
    refine s_nil ?_
    refine thn ?_
    refine TR.subperm (l2 := (L, .frame [("tree", some (.ref t.x)), ("node", some (.int p)), ("found", none), ("here", none), ("sibling", none)]) :: l) ?_ (by tb_rel)
    exact preceding_loop P hT G hpn hr' hE hC (hal _ _ hC) hR hl h
end
noncomputable def TreeA.nss (t : TreeA) (i : Nat) : List Nat := (t.rows[i]?.map (·.ns)).getD []
noncomputable def TreeA.nam (t : TreeA) (i : Nat) : Str := (t.rows[i]?.map (·.name)).getD ""
noncomputable def TreeA.valu (t : TreeA) (i : Nat) : Str := (t.rows[i]?.map (·.val)).getD ""
noncomputable def TreeA.lot (t : TreeA) (i : Nat) : List Nat := if t.kinds i = "element" then t.nss i else []
noncomputable abbrev lotLed (ls : List (Addr × List Nat)) : Led := ls.map fun p => (p.1, .list (inl p.2))
section
variable {Z : Amb} {A : Around} {l : Led} {X : Value → Shared → Prop}
theorem nss_of {t : TreeA} {i : Nat} {nd : NodeA} (h : t.rows[i]? = some nd) : t.nss i = nd.ns := by unfold TreeA.nss; rw [h]; rfl
theorem nam_of {t : TreeA} {i : Nat} {nd : NodeA} (h : t.rows[i]? = some nd) : t.nam i = nd.name := by unfold TreeA.nam; rw [h]; rfl
theorem valu_of {t : TreeA} {i : Nat} {nd : NodeA} (h : t.rows[i]? = some nd) : t.valu i = nd.val := by unfold TreeA.valu; rw [h]; rfl
theorem iter_gen {v : AV} {l0 facts base : Led} {K : Addr → Led → Prop} (hf : In facts l0) (hs : Sb base l0) (h : ∀ LL, In facts LL → Sb base LL → ITER Z A v LL K X) : ITER Z A v l0 K X := h l0 hf hs
theorem inv_comp2 {env : Env} {it D : Addr} {x y : Str} {i1 elt : Expr} {l0 : Led} {Fin : Led → Prop} (Inv : Nat → Led → Prop) (n : Nat) (hs : Sb l0 l) (h0 : Inv n l0)
    (turn : ∀ J : Nat → Led → Prop, (∀ m l', Inv m l' → J m l') → ∀ n l3, Inv n l3 → TurnK Z A it l3 Fin (storeName env x) (fun l5 => EV Z A env i1 l5 (fun w l6 => ITER Z A w l6 (fun it2 l7 => SELF Z A it2 l7 ∧ CompK Z A env y [] elt it2 D (Dot J n) l7) noX) noX)) : CompK2 Z A env x y i1 elt it D Fin l := by
  refine ⟨fun n => Up (Inv n), n, ⟨l0, hs, h0⟩, ?_⟩
  rintro n l3 ⟨l', hsb, hI⟩
  rcases turn (fun n => Up (Inv n)) (fun m l' h => ⟨l', Sb.refl, h⟩) n l' hI with ⟨l4, h1, h2⟩ | ⟨v, l4, h1, h2⟩
  · exact .inl ⟨l4, fun s Q' X hsat hQ => h1 s Q' X (hsat.subperm hsb) hQ, h2⟩
  · exact .inr ⟨v, l4, fun s Q' X hsat hQ => h1 s Q' X (hsat.subperm hsb) hQ, h2⟩
theorem inv_comp231 {α β γ : Type} {env : Env} {it D : Addr} {x y : Str} {i1 elt : Expr} {Fin : Led → Prop} (f : α → β → γ → Nat) (w0 : α → β → γ → Prop) (g : α → β → γ → Led) (a0 : α) (b0 : β) (c0 : γ) (hs : Sb (g a0 b0 c0) l) (h0 : w0 a0 b0 c0)
    (turn : ∀ J : Nat → Led → Prop, (∀ a b c, w0 a b c → J (f a b c) (g a b c)) → ∀ a b c, w0 a b c → TurnK Z A it (g a b c) Fin (storeName env x) (fun l5 => EV Z A env i1 l5 (fun w l6 => ITER Z A w l6 (fun it2 l7 => SELF Z A it2 l7 ∧ CompK Z A env y [] elt it2 D (Dot J (f a b c)) l7) noX) noX)) : CompK2 Z A env x y i1 elt it D Fin l := by
  refine inv_comp2 (fun n l => ∃ a b c, n = f a b c ∧ w0 a b c ∧ l = g a b c) _ hs ⟨a0, b0, c0, rfl, h0, rfl⟩ ?_
  rintro J hJ n l3 ⟨a, b, c, rfl, h0, rfl⟩
  exact turn J (fun a b c h0 => hJ _ _ ⟨a, b, c, rfl, h0, rfl⟩) a b c h0
theorem nsScope_ok (P : PX Z) {t : TreeA} {i : Nat} {nd : NodeA} {as : List Nat} {Q : AV → Led → Prop} (hT : In (treeLed P t) l) (G : t.Good) (hi : t.rows[i]? = some nd) (hC : Chain t.pars nd.par as) (has : as.length ≤ 90) (hW : ((i :: as).flatMap t.lot).length ≤ 100)
    (hnd : (((i :: as).flatMap t.lot).map t.nam).Nodup) (hv : ∀ k ∈ (i :: as).flatMap t.lot, t.valu k ≠ "") (hr : Room A 9)
    (h : ∀ r, Q (.ref r) ((r, .list (inl (if nd.kind = "element" then (i :: as).reverse.flatMap t.lot else []))) :: l)) : CD Z A (.ref (P.fa 10)) [.ref t.x, .int i] l Q X := by
  have m1 := tree_in1 hT
  have m2 := tree_in2 hT
  have m3 := tree_in3 hT
  have hz : t.rows.length ≤ 100 := Nat.le_trans G.size (by decide)
  have hlt : ∀ k ∈ i :: as, k < t.rows.length := by
    intro k hk
    rcases List.mem_cons.mp hk with rfl | hk
    · exact (List.getElem?_eq_some_iff.mp hi).1
    · exact hC.lt G (G.pri _ (List.mem_of_getElem? hi)) k hk
  refine cd_fn (P.fdef 10 (by decide)).1 (m := [("tree", some (.ref t.x)), ("node", some (.int i)), ("lots", none), ("met", none), ("here", none), ("lot", none), ("told", none)]) (names := [("tree", .local), ("node", .local), ("lots", .local), ("met", .local), ("here", .local), ("lot", .local), ("told", .local), ("ancestors", .globalImplicit)]) (ps := ["tree", "node"]) (others := ["lots", "met", "here", "lot", "told"]) rfl rfl (fun doc pm cdv ct => bind2 fun v0 v1 => rfl) (by decide) rfl (k := 8) hr ?_
  intro env L A' hE hr'
  refine s_cons ?_
  refine s_if ?_
  refine t_cmp ?_
  refine m_own ?_
  tlg_ne
  refine met_t 13 (by decide) (by lcg_sub) (by lcg_sub) (by decide) ?_ mN13
  refine a_cons ?_
  tlg_ne
  refine a_nil ?_
  refine CD.cl (get_ok P (j := 13) (by decide) (by lcg_src) hi hz (hr'.le (by decide)) (fun _ => ?_) (by simp) (by simp) (by simp))
  refine r_str ?_
  by_cases hk : nd.kind = "element"
  case neg =>
    rw [if_neg hk] at h
    refine c_nes (br_t ?_ ?_)
    · exact bne_iff_ne.mpr hk
    refine s_cons ?_
    refine s_ret ?_
    refine r_list ?_
    refine a_nil ?_
    refine ⟨by decide, fun r => ?_⟩
    refine thr ?_
    refine thr ?_
    exact ⟨_, by tb_rel, h r⟩
  rw [if_pos hk] at h
  refine c_nes (br_f ?_ ?_)
  · rw [hk]; rfl
  refine s_nil ?_
  refine t_cons ?_
  refine s_tup2 (by assumption) (Room.hh (by assumption)) (by lcg_sub) (by lcg_sub) ?_
  refine r_tuple ?_
  refine a_cons ?_
  refine r_list ?_
  refine a_nil ?_
  refine ⟨by decide, fun lo => ?_⟩
  refine a_cons ?_
  refine r_dict0 ?_
  intro me
  refine a_nil ?_
  refine ⟨by simp, fun tu => ?_⟩
  refine ⟨_, _, _, rfl, by lcg_sub, ?_⟩
  isplit
  isplit
  refine t_cons ?_
  refine s_for ?_
  refine r_binop ?_
  refine r_list ?_
  refine a_cons ?_
  tlg_ne
  refine a_nil ?_
  refine ⟨by simp, fun a1 => ?_⟩
  refine r_callf (by assumption) 4 (by decide) (by assumption) (by lcg_sub) ?_ fN4
  refine a_cons ?_
  tlg_ne
  refine a_cons ?_
  tlg_ne
  refine a_nil ?_
  refine CD.cl (ancestors_ok P (by lcg_src) G hi hC (by omega) (hr'.le (by decide)) fun a2 => ?_)
  refine o_addl (xs := inl [i]) (ys := inl as) (.tail _ (.head _)) (by lcg_sub) (by simp) (by first | exact len_map_le (len_map_le (by omega)) | exact len_map_le (by omega) | (simp; omega)) fun a3 => ?_
  rw [← inl_app, List.singleton_append]
  refine iter_list (by lcg_sub) fun it => ?_
  generalize hcs : i :: as = cs at *
  have hcl : cs.length ≤ 91 := by rw [← hcs]; simp; omega
  refine inv_sb52 (fun j ls vh vl vt => cs.length - j) (fun j ls vh vl vt => j ≤ cs.length) (fun j ls vh vl vt => ls.map (·.2) = (cs.take j).map t.lot) (fun j ls vh vl vt => (it, .liter a3 j) :: (a3, .list (inl cs)) :: (me, .dictS (((cs.take j).flatMap t.lot).map fun k => (t.nam k, .bool true))) :: (lo, .list (ls.map fun p => .ref p.1)) :: (L, .frame [("tree", some (.ref t.x)), ("node", some (.int i)), ("lots", some (.ref lo)), ("met", some (.ref me)), ("here", vh), ("lot", vl), ("told", vt)]) :: (lotLed ls ++ l)) 0 [] none none none (show Sb ((it, .liter a3 0) :: (a3, .list (inl cs)) :: (me, .dictS []) :: (lo, .list []) :: (L, .frame [("tree", some (.ref t.x)), ("node", some (.int i)), ("lots", some (.ref lo)), ("met", some (.ref me)), ("here", none), ("lot", none), ("told", none)]) :: l) _ from by tb_rel) (Nat.zero_le _) rfl fun J (hNj : ∀ j ls vh vl vt, j ≤ cs.length → ls.map (·.2) = (cs.take j).map t.lot → J (cs.length - j) ((it, .liter a3 j) :: (a3, .list (inl cs)) :: (me, .dictS (((cs.take j).flatMap t.lot).map fun k => (t.nam k, .bool true))) :: (lo, .list (ls.map fun p => .ref p.1)) :: (L, .frame [("tree", some (.ref t.x)), ("node", some (.int i)), ("lots", some (.ref lo)), ("met", some (.ref me)), ("here", vh), ("lot", vl), ("told", vt)]) :: (lotLed ls ++ l))) j ls vh vl vt (hjl : j ≤ cs.length) (hls : ls.map (·.2) = (cs.take j).map t.lot) => (?_ : TurnK Z _ _ ((it, .liter a3 j) :: (a3, .list (inl cs)) :: (me, .dictS (((cs.take j).flatMap t.lot).map fun k => (t.nam k, .bool true))) :: (lo, .list (ls.map fun p => .ref p.1)) :: (L, .frame [("tree", some (.ref t.x)), ("node", some (.int i)), ("lots", some (.ref lo)), ("met", some (.ref me)), ("here", vh), ("lot", vl), ("told", vt)]) :: (lotLed ls ++ l)) _ _ _)
  have hlsl : ls.length = j := by
    have := congrArg List.length hls
    simpa [Nat.min_eq_left hjl] using this
  by_cases hj : j < cs.length
  · right
    refine ⟨.int cs[j], _, next_list (by krn_off) (by lcg_sub) (by simp [hj]), ?_⟩
    have hkl := hlt _ (List.getElem_mem hj)
    generalize hkk : cs[j] = k at hkl ⊢
    have hWe : cs.flatMap t.lot = (cs.take j).flatMap t.lot ++ (t.lot k ++ (cs.drop (j + 1)).flatMap t.lot) := by
      have e1 : cs = cs.take j ++ (k :: cs.drop (j + 1)) := by
        rw [← hkk, List.getElem_cons_drop, List.take_append_drop]
      conv => lhs; rw [e1]
      rw [List.flatMap_append, List.flatMap_cons]
    refine (fun kn hkn => ?_ : ∀ kn, t.rows[k]? = some kn → _) _ (List.getElem?_eq_getElem hkl)
    have hnl := G.nsl _ (List.mem_of_getElem? hkn)
    have mT : In (treeLed P t) (lotLed ls ++ l) := fun p hp => List.mem_append_right _ (hT p hp)
    have m1 := tree_in1 mT
    have m2 := tree_in2 mT
    have m3 := tree_in3 mT
    isplit
    refine s_cons ?_
    refine s_assign ?_
    refine r_list ?_
    refine a_nil ?_
    refine ⟨by decide, fun lt => ?_⟩
    isplit
    refine thn ?_
    refine s_cons ?_
    refine s_for ?_
    refine TR.mono (Q := fun (v : AV) l2 => ∃ r, v = .ref r ∧ l2 = (r, .list (inl (t.lot k))) :: (lt, .list []) :: (it, .liter a3 (j + 1)) :: (a3, .list (inl cs)) :: (me, .dictS (((cs.take j).flatMap t.lot).map fun k => (t.nam k, .bool true))) :: (lo, .list (ls.map fun p => .ref p.1)) :: (L, .frame [("tree", some (.ref t.x)), ("node", some (.int i)), ("lots", some (.ref lo)), ("met", some (.ref me)), ("here", some (.int k)), ("lot", some (.ref lt)), ("told", vt)]) :: (lotLed ls ++ l)) ?_ ?_
    · refine r_ifexp ?_
      refine t_cmp ?_
      refine m_own ?_
      tlg_ne
      refine met_t 13 (by decide) (by lcg_sub) (by lcg_sub) (by decide) ?_ mN13
      refine a_cons ?_
      tlg_ne
      refine a_nil ?_
      refine CD.cl (get_ok P (j := 13) (by decide) (by lcg_src) hkn hz (hr'.le (by decide)) (fun _ => ?_) (by simp) (by simp) (by simp))
      refine r_str ?_
      have hlot : t.lot k = if kn.kind = "element" then kn.ns else [] := by
        unfold TreeA.lot; rw [kinds_of hkn, nss_of hkn]
      refine c_eqs ⟨fun e => ?_, fun e => ?_⟩
      · rw [if_pos (eq_of_beq e)] at hlot
        refine m_own ?_
        tlg_ne
        refine met_t 21 (by decide) (by lcg_sub) (by lcg_sub) (by decide) ?_ mN21
        refine a_cons ?_
        tlg_ne
        refine a_nil ?_
        refine CD.cl (namespaces_ok P (by lcg_src) hkn hz (Nat.le_trans hnl (by decide)) (hr'.le (by decide)) fun r => ⟨r, rfl, by rw [hlot]⟩)
      · rw [if_neg (fun q => by rw [q] at e; simp at e)] at hlot
        refine r_list ?_
        refine a_nil ?_
        refine ⟨by decide, fun r => ⟨r, rfl, by rw [hlot]; rfl⟩⟩
    rintro _ _ ⟨r, rfl, rfl⟩
    refine iter_list (by lcg_sub) fun it2 => ?_
    have hTk : (cs.take j).flatMap t.lot ++ (t.lot k) ++ (cs.drop (j + 1)).flatMap t.lot = cs.flatMap t.lot := by rw [hWe, List.append_assoc]
    have hlen : ((cs.take j).flatMap t.lot).length + (t.lot k).length ≤ 100 := by
      have := congrArg List.length hTk
      simp only [List.length_append] at this
      omega
    have hlotle : ∀ x ∈ t.lot k, x < t.rows.length := by
      intro x hx
      unfold TreeA.lot at hx
      split at hx
      · rw [nss_of hkn] at hx; exact G.nsi _ (List.mem_of_getElem? hkn) x hx
      · simp at hx
    refine inv_sb (fun n l3 => ∃ q vt, n = (t.lot k).length - q ∧ q ≤ (t.lot k).length ∧ l3 = (it2, .liter r q) :: (r, .list (inl (t.lot k))) :: (lt, .list (inl ((t.lot k).take q))) :: (it, .liter a3 (j + 1)) :: (a3, .list (inl cs)) :: (me, .dictS (((cs.take j).flatMap t.lot ++ (t.lot k).take q).map fun k => (t.nam k, .bool true))) :: (lo, .list (ls.map fun p => .ref p.1)) :: (L, .frame [("tree", some (.ref t.x)), ("node", some (.int i)), ("lots", some (.ref lo)), ("met", some (.ref me)), ("here", some (.int k)), ("lot", some (.ref lt)), ("told", vt)]) :: (lotLed ls ++ l)) _ (l0 := (it2, .liter r 0) :: (r, .list (inl (t.lot k))) :: (lt, .list []) :: (it, .liter a3 (j + 1)) :: (a3, .list (inl cs)) :: (me, .dictS (((cs.take j).flatMap t.lot).map fun k => (t.nam k, .bool true))) :: (lo, .list (ls.map fun p => .ref p.1)) :: (L, .frame [("tree", some (.ref t.x)), ("node", some (.int i)), ("lots", some (.ref lo)), ("met", some (.ref me)), ("here", some (.int k)), ("lot", some (.ref lt)), ("told", vt)]) :: (lotLed ls ++ l)) (by tb_rel) ⟨0, vt, rfl, Nat.zero_le _, by rw [List.take_zero, List.append_nil]; rfl⟩ ?_
    intro J hJq
    have hNq : ∀ q vt, q ≤ (t.lot k).length → J ((t.lot k).length - q) ((it2, .liter r q) :: (r, .list (inl (t.lot k))) :: (lt, .list (inl ((t.lot k).take q))) :: (it, .liter a3 (j + 1)) :: (a3, .list (inl cs)) :: (me, .dictS (((cs.take j).flatMap t.lot ++ (t.lot k).take q).map fun k => (t.nam k, .bool true))) :: (lo, .list (ls.map fun p => .ref p.1)) :: (L, .frame [("tree", some (.ref t.x)), ("node", some (.int i)), ("lots", some (.ref lo)), ("met", some (.ref me)), ("here", some (.int k)), ("lot", some (.ref lt)), ("told", vt)]) :: (lotLed ls ++ l)) := fun q vt c0 => hJq _ _ ⟨q, vt, rfl, c0, rfl⟩
    clear hJq
    rintro n l3 ⟨q, vt, rfl, hql, rfl⟩
    by_cases hq : q < (t.lot k).length
    · right
      refine ⟨.int (t.lot k)[q], _, next_list (by krn_off) (by lcg_sub) (by simp [hq]), ?_⟩
      have hx := hlotle _ (List.getElem_mem hq)
      have hWq : cs.flatMap t.lot = ((cs.take j).flatMap t.lot ++ (t.lot k).take q) ++ ((t.lot k)[q] :: ((t.lot k).drop (q + 1) ++ (cs.drop (j + 1)).flatMap t.lot)) := by
        rw [← hTk]
        have e3 : t.lot k = (t.lot k).take q ++ ((t.lot k)[q] :: (t.lot k).drop (q + 1)) := by rw [List.getElem_cons_drop, List.take_append_drop]
        conv => lhs; rw [e3]
        simp only [List.append_assoc, List.cons_append]
      have hval : t.valu (t.lot k)[q] ≠ "" := hv _ (by rw [hWq]; simp)
      have hnew : t.nam (t.lot k)[q] ∉ (((cs.take j).flatMap t.lot ++ (t.lot k).take q).map fun k => (t.nam k, AV.bool true)).map (·.1) := by
        rw [hWq, List.map_append, List.map_cons, List.nodup_append] at hnd
        rw [List.map_map]
        intro hm
        exact hnd.2.2 _ hm _ (.head _) rfl
      have htake : (t.lot k).take (q + 1) = (t.lot k).take q ++ [(t.lot k)[q]] := by rw [List.take_add_one, List.getElem?_eq_getElem hq]; rfl
      have hkl2 : ((t.lot k).take q).length ≤ (t.lot k).length := by rw [List.length_take]; exact Nat.min_le_right _ _
      generalize hxx : (t.lot k)[q] = x at hx hval hnew htake ⊢
      refine (fun xn hxn => ?_ : ∀ xn, t.rows[x]? = some xn → _) _ (List.getElem?_eq_getElem hx)
      rw [nam_of hxn] at hnew
      rw [valu_of hxn] at hval
      isplit
      refine s_cons ?_
      refine s_if ?_
      refine t_cmp ?_
      refine m_own ?_
      tlg_ne
      refine met_t 14 (by decide) (by lcg_sub) (by lcg_sub) (by decide) ?_ mN14
      refine a_cons ?_
      tlg_ne
      refine a_nil ?_
      refine CD.cl (get_ok P (j := 14) (by decide) (by lcg_src) hxn hz (hr'.le (by decide)) (by simp) (fun _ => ?_) (by simp) (by simp))
      tlg_ne
      refine c_notinD (by lcg_sub) (br_t ?_ ?_)
      · rw [decide_eq_false hnew]; rfl
      refine s_cons ?_
      refine s_setitem ?_
      refine r_bool ?_
      tlg_ne
      refine m_own ?_
      tlg_ne
      refine met_t 14 (by decide) (by lcg_sub) (by lcg_sub) (by decide) ?_ mN14
      refine a_cons ?_
      tlg_ne
      refine a_nil ?_
      refine CD.cl (get_ok P (j := 14) (by decide) (by lcg_src) hxn hz (hr'.le (by decide)) (by simp) (fun _ => ?_) (by simp) (by simp))
      refine si_dictSNew (by krn_off) hnew (by simp only [List.length_map, List.length_append]; omega) ?_
      refine t_cons ?_
      refine s_if ?_
      refine t_cmp ?_
      refine m_own ?_
      tlg_ne
      refine met_t 17 (by decide) (by lcg_sub) (by lcg_sub) (by decide) ?_ mN17
      refine a_cons ?_
      tlg_ne
      refine a_nil ?_
      refine CD.cl (get_ok P (j := 17) (by decide) (by lcg_src) hxn hz (hr'.le (by decide)) (by simp) (by simp) (fun _ => ?_) (by simp))
      refine r_str ?_
      refine c_nes (br_t ?_ ?_)
      · exact bne_iff_ne.mpr hval
      refine s_cons ?_
      refine s_expr (by assumption) ?_
      refine m_append ?_
      tlg_ne
      refine ⟨_, rfl, ⟨_, by lcg_sub⟩, ?_⟩
      tlg_ne
      refine ⟨_, _, by krn_off, by first | exact len_map_le (len_map_le (by omega)) | exact len_map_le (by omega) | (simp only [List.length_map]; omega), ?_⟩
      refine t_nil ?_
      refine t_nil ?_
      refine t_nil ?_
      refine ⟨_, _, dec_lt hq, ?_, hNq (q + 1) (some (.int x)) hq⟩
      rw [htake, inl_snoc, ← List.append_assoc, List.map_append]
      simp only [List.map_cons, List.map_nil, nam_of hxn]
      tb_rel
    · left
      refine ⟨_, end_list hr'.hh (by lcg_sub) (by lcg_sub) (by first | exact len_map_le (len_map_le (by omega)) | exact len_map_le (by omega) | (simp only [List.length_map]; omega)) (by lcg_off) (by simp), ?_⟩
      have htl : (t.lot k).take q = t.lot k := List.take_of_length_le (by omega)
      rw [htl]
      refine t_cons ?_
      refine s_expr (by assumption) ?_
      refine m_append ?_
      tlg_ne
      refine ⟨_, rfl, ⟨_, by lcg_sub⟩, ?_⟩
      tlg_ne
      refine ⟨_, _, by krn_off, by first | exact len_map_le (len_map_le (by omega)) | exact len_map_le (by omega) | (simp only [List.length_map]; omega), ?_⟩
      refine t_nil ?_
      refine ⟨_, _, dec_lt hj, ?_, hNj (j + 1) (ls ++ [(lt, t.lot k)]) (some (.int k)) (some (.ref lt)) vt hj ?_⟩
      · have htj : cs.take (j + 1) = cs.take j ++ [k] := by rw [List.take_add_one, List.getElem?_eq_getElem hj, hkk]; rfl
        rw [htj, List.flatMap_append]
        simp only [List.flatMap_cons, List.flatMap_nil, List.append_nil, List.map_append, List.map_cons, List.map_nil]
        refine Sb.pick (by l_intsC) (Sb.pick (by l_intsC) (Sb.pick (by l_intsC) (Sb.pick (by l_intsC) (Sb.pick (by l_intsC) ?_))))
        rw [List.append_assoc]
        refine Sb.trans (.ofPerm List.perm_middle) ?_
        tb_rel
      · have htj : cs.take (j + 1) = cs.take j ++ [k] := by rw [List.take_add_one, List.getElem?_eq_getElem hj, hkk]; rfl
        rw [htj, List.map_append, List.map_append, hls]
        rfl
  · left
    refine ⟨_, end_list hr'.hh (by lcg_sub) (by lcg_sub) (by first | exact len_map_le (len_map_le (by omega)) | exact len_map_le (by omega) | (simp only [List.length_map]; omega)) (by lcg_off) (by simp), ?_⟩
    refine t_cons ?_
    refine s_ret ?_
    have hje : j = cs.length := Nat.le_antisymm hjl (Nat.le_of_not_lt hj)
    subst hje
    rw [List.take_length] at hls
    have hfin : (ls.reverse).flatMap (·.2) = cs.reverse.flatMap t.lot := by
      rw [List.flatMap_def, List.flatMap_def, List.map_reverse, List.map_reverse, hls]
    have hsum : ∀ q, ((ls.reverse.take q).flatMap (·.2)).length ≤ 100 := by
      intro q
      have h1 : ((ls.reverse.take q).flatMap (·.2)).length ≤ ((ls.reverse).flatMap (·.2)).length := by
        conv => rhs; rw [← List.take_append_drop q ls.reverse]
        rw [List.flatMap_append, List.length_append]
        omega
      have h2 : (cs.reverse.flatMap t.lot).length = (cs.flatMap t.lot).length := by
        rw [List.flatMap_def, List.flatMap_def, List.length_flatten, List.length_flatten, List.map_map, List.map_map, List.map_reverse, List.sum_reverse]
      rw [hfin, h2] at h1
      omega
    refine r_comp2 (m := [(".0", none), ("lot", none), ("told", none)]) (names' := [("lot", .local), ("told", .local)]) hE rfl ?_ (by decide) ?_
    · intro y hy
      simp only [List.mem_cons, List.not_mem_nil, or_false] at hy
      rcases hy with rfl | rfl <;> rfl
    refine r_slice ?_
    tlg_ne
    refine eo_none ?_
    refine eo_none ?_
    refine eo_some ?_
    refine r_negc ?_
    refine ⟨_, _, _, _, _, rfl, by lcg_sub, rfl, rfl, rfl, by decide, by first | exact len_map_le (len_map_le (by omega)) | exact len_map_le (by omega) | (simp only [List.length_map]; omega), fun rv => ?_⟩
    rw [pickA_rev, ← List.map_reverse]
    refine iter_gen (facts := (rv, .list (ls.reverse.map fun p => .ref p.1)) :: lotLed ls) (base := l) ?_ ?_ fun LL hf hsb => ?_
    · intro p hp
      rcases List.mem_cons.mp hp with rfl | hp
      · exact .head _
      · exact .tail _ (.tail _ (.tail _ (.tail _ (.tail _ (List.mem_append_left _ hp)))))
    · exact .drop (.drop (.drop (.drop (.drop ⟨l, .refl _, List.sublist_append_right _ _⟩))))
    have hrv := hf _ (.head _)
    have hin : ∀ p ∈ ls, (p.1, AObj.list (inl p.2)) ∈ LL := fun p hp => hf _ (.tail _ (List.mem_map.mpr ⟨p, hp, rfl⟩))
    refine iter_list (by lcg_sub) fun it3 => ⟨fun l3 hs3 => self_list (hs3.subset (.head _)), fun C D cenv hEc => ?_⟩
    refine inv_comp231 (fun q vl vt => ls.reverse.length - q) (fun q vl vt => q ≤ ls.reverse.length) (fun q vl vt => (C, .frame [(".0", none), ("lot", vl), ("told", vt)]) :: (D, .list (inl ((ls.reverse.take q).flatMap (·.2)))) :: (it3, .liter rv q) :: LL) 0 none none Sb.refl (Nat.zero_le _) fun J (hNq : ∀ q vl vt, q ≤ ls.reverse.length → J (ls.reverse.length - q) ((C, .frame [(".0", none), ("lot", vl), ("told", vt)]) :: (D, .list (inl ((ls.reverse.take q).flatMap (·.2)))) :: (it3, .liter rv q) :: LL)) q vl vt (hql : q ≤ ls.reverse.length) => (?_ : TurnK Z _ _ ((C, .frame [(".0", none), ("lot", vl), ("told", vt)]) :: (D, .list (inl ((ls.reverse.take q).flatMap (·.2)))) :: (it3, .liter rv q) :: LL) _ _ _)
    by_cases hq : q < ls.reverse.length
    · right
      refine (fun x hx => ?_ : ∀ x, ls.reverse[q] = x → _) _ (rfl)
      have hxm : x ∈ ls := List.mem_reverse.mp (hx ▸ List.getElem_mem hq)
      have hxin := hin x hxm
      have htk : ls.reverse.take (q + 1) = ls.reverse.take q ++ [x] := by rw [List.take_add_one, List.getElem?_eq_getElem hq, hx]; rfl
      have hs1 := hsum (q + 1)
      rw [htk, List.flatMap_append, List.length_append] at hs1
      simp only [List.flatMap_cons, List.flatMap_nil, List.append_nil] at hs1
      refine ⟨.ref x.1, _, next_list (by krn_off) (by lcg_sub) ?_, ?_⟩
      · rw [List.getElem?_map, List.getElem?_eq_getElem hq, hx]; rfl
      isplit
      tlg_ne
      refine iter_list (by lcg_sub) fun it4 => ⟨self_list (.head _), ?_⟩
      refine inv_comp (fun n l3 => ∃ u vt, n = x.2.length - u ∧ u ≤ x.2.length ∧ l3 = (it4, .liter x.1 u) :: (C, .frame [(".0", none), ("lot", some (.ref x.1)), ("told", vt)]) :: (D, .list (inl ((ls.reverse.take q).flatMap (·.2) ++ x.2.take u))) :: (it3, .liter rv (q + 1)) :: LL) _ Sb.refl ⟨0, vt, rfl, Nat.zero_le _, by rw [List.take_zero, List.append_nil]⟩ ?_
      intro J hJu
      have hNu : ∀ u vt, u ≤ x.2.length → J (x.2.length - u) ((it4, .liter x.1 u) :: (C, .frame [(".0", none), ("lot", some (.ref x.1)), ("told", vt)]) :: (D, .list (inl ((ls.reverse.take q).flatMap (·.2) ++ x.2.take u))) :: (it3, .liter rv (q + 1)) :: LL) := fun u vt c0 => hJu _ _ ⟨u, vt, rfl, c0, rfl⟩
      clear hJu
      rintro n l3 ⟨u, vt, rfl, hul, rfl⟩
      by_cases hu : u < x.2.length
      · right
        refine ⟨.int x.2[u], _, next_list (by krn_off) (by lcg_sub) (by simp [hu]), ?_⟩
        isplit
        refine ifs_nil ⟨fun _ => ?_, fun h => (by first | exact ctf h | exact cft h)⟩
        tlg_ne
        refine ⟨_, _, by krn_off, ?_, _, _, dec_lt hu, ?_, hNu (u + 1) (some (.int x.2[u])) hu⟩
        · simp only [List.length_map, List.length_append, List.length_take]; omega
        · rw [List.take_add_one, List.getElem?_eq_getElem hu, Option.toList_some, ← List.append_assoc, inl_snoc]
          tb_rel
      · left
        refine ⟨_, end_list hr'.hh (by lcg_sub) (by lcg_sub) (by first | exact len_map_le (len_map_le (by omega)) | exact len_map_le (by omega) | (simp only [List.length_map]; omega)) (by lcg_off) (by simp), ?_⟩
        refine ⟨_, _, dec_lt hq, ?_, hNq (q + 1) (some (.ref x.1)) vt hq⟩
        have hxt : x.2.take u = x.2 := List.take_of_length_le (by omega)
        rw [htk, List.flatMap_append, hxt]
        simp only [List.flatMap_cons, List.flatMap_nil, List.append_nil]
        tb_rel
    · left
      have htl : ls.reverse.take q = ls.reverse := List.take_of_length_le (by omega)
      refine ⟨_, end_list hr'.hh (by lcg_sub) (by lcg_sub) (by first | exact len_map_le (len_map_le (by omega)) | exact len_map_le (by omega) | (simp only [List.length_map]; omega)) (by lcg_off) (by simp), ?_⟩
      refine ⟨_, _, by lcg_sub, by lcg_off, by simp, ?_⟩
      rw [htl, hfin]
      refine thr ?_
      exact ⟨_, .cons hsb, h D⟩
end
section
variable {Z : Amb} {A : Around} {l : Led} {X : Value → Shared → Prop}
inductive Short (t : TreeA) (i : Nat) : Str → List Nat → Prop
  | child : Short t i "child" (t.chs i)
  | self : Short t i "self" [i]
  | parent : Short t i "parent" (t.pars i).toList
  | attrs : Short t i "attribute" (if t.kinds i = "element" then (t.rows[i]?.map (·.at')).getD [] else [])
  | behind : Short t i "following-sibling" (t.behindN i)
  | ahead : Short t i "preceding-sibling" (t.aheadN i)
  | ns {as : List Nat} : Chain t.pars (t.pars i) as → as.length ≤ 90 → ((i :: as).flatMap t.lot).length ≤ 100 → (((i :: as).flatMap t.lot).map t.nam).Nodup → (∀ k ∈ (i :: as).flatMap t.lot, t.valu k ≠ "") →
      Short t i "namespace" (if t.kinds i = "element" then (i :: as).reverse.flatMap t.lot else [])
theorem short_ok (P : PX Z) {t : TreeA} {i : Nat} {nd : NodeA} {nm : Str} {out : List Nat} {Q : AV → Led → Prop} (hT : In (treeLed P t) l) (G : t.Good) (hi : t.rows[i]? = some nd) (hS : Short t i nm out) (hr : Room A 10)
    (h : ∀ r, Q (.ref r) ((r, .list (inl out)) :: l)) : CD Z A (.ref (P.fa 11)) [.ref t.x, .int i, .str nm] l Q X := by
  have m1 := tree_in1 hT
  have m2 := tree_in2 hT
  have m3 := tree_in3 hT
  have hz : t.rows.length ≤ 100 := Nat.le_trans G.size (by decide)
  have hcl := G.chl _ (List.mem_of_getElem? hi)
  have hal := G.atl _ (List.mem_of_getElem? hi)
  cases hS with
  | child =>
    rw [chs_of hi] at h
    refine cd_fn (P.fdef 11 (by decide)).1 (m := [("tree", some (.ref t.x)), ("node", some (.int i)), ("name", some (.str "child")), ("parent", none)]) (names := [("tree", .local), ("node", .local), ("name", .local), ("parent", .local), ("list", .globalImplicit), ("siblings_behind", .globalImplicit), ("siblings_ahead", .globalImplicit), ("namespaces_in_scope", .globalImplicit)]) (ps := ["tree", "node", "name"]) (others := ["parent"]) rfl rfl (fun doc pm cdv ct => bind3 fun v0 v1 v2 => rfl) (by decide) rfl (k := 9) hr ?_
    intro env L A' hE hr'
    refine s_cons ?_
    refine s_if ?_
    refine t_cmp ?_
    tlg_ne
    refine r_str ?_
    refine c_eqs (br_t rfl ?_)
    refine s_cons ?_
    refine s_ret ?_
    refine rc_list (by assumption) (by assumption) (by lcg_sub) ?_
    refine m_own ?_
    tlg_ne
    refine met_t 19 (by decide) (by lcg_sub) (by lcg_sub) (by decide) ?_ mN19
    refine a_cons ?_
    tlg_ne
    refine a_nil ?_
    refine CD.cl (children_ok P (by lcg_src) hi hz (by omega) (hr'.le (by decide)) fun r => ?_)
    refine b_list (by lcg_sub) (by first | exact len_map_le (len_map_le (by omega)) | exact len_map_le (by omega) | (simp only [List.length_map]; omega)) fun r2 => ?_
    refine thr ?_
    refine thr ?_
    exact ⟨_, by tb_rel, h r2⟩
  | self =>
    refine cd_fn (P.fdef 11 (by decide)).1 (m := [("tree", some (.ref t.x)), ("node", some (.int i)), ("name", some (.str "self")), ("parent", none)]) (names := [("tree", .local), ("node", .local), ("name", .local), ("parent", .local), ("list", .globalImplicit), ("siblings_behind", .globalImplicit), ("siblings_ahead", .globalImplicit), ("namespaces_in_scope", .globalImplicit)]) (ps := ["tree", "node", "name"]) (others := ["parent"]) rfl rfl (fun doc pm cdv ct => bind3 fun v0 v1 v2 => rfl) (by decide) rfl (k := 9) hr ?_
    intro env L A' hE hr'
    refine s_cons ?_
    refine s_if ?_
    refine t_cmp ?_
    tlg_ne
    refine r_str ?_
    refine c_eqs (br_f (by decide) ?_)
    refine s_nil ?_
    refine t_cons ?_
    refine s_if ?_
    refine t_cmp ?_
    tlg_ne
    refine r_str ?_
    refine c_eqs (br_t rfl ?_)
    refine s_cons ?_
    refine s_expr (by assumption) ?_
    refine m_own ?_
    tlg_ne
    refine met_t 13 (by decide) (by lcg_sub) (by lcg_sub) (by decide) ?_ mN13
    refine a_cons ?_
    tlg_ne
    refine a_nil ?_
    refine CD.cl (get_ok P (j := 13) (by decide) (by lcg_src) hi hz (hr'.le (by decide)) (fun _ => ?_) (by simp) (by simp) (by simp))
    refine t_cons ?_
    refine s_ret ?_
    refine r_list ?_
    refine a_cons ?_
    tlg_ne
    refine a_nil ?_
    refine ⟨by simp, fun r => ?_⟩
    refine thr ?_
    refine thr ?_
    exact ⟨_, by tb_rel, h r⟩
  | parent =>
    rw [pars_of hi] at h
    refine cd_fn (P.fdef 11 (by decide)).1 (m := [("tree", some (.ref t.x)), ("node", some (.int i)), ("name", some (.str "parent")), ("parent", none)]) (names := [("tree", .local), ("node", .local), ("name", .local), ("parent", .local), ("list", .globalImplicit), ("siblings_behind", .globalImplicit), ("siblings_ahead", .globalImplicit), ("namespaces_in_scope", .globalImplicit)]) (ps := ["tree", "node", "name"]) (others := ["parent"]) rfl rfl (fun doc pm cdv ct => bind3 fun v0 v1 v2 => rfl) (by decide) rfl (k := 9) hr ?_
    intro env L A' hE hr'
    refine s_cons ?_
    refine s_if ?_
    refine t_cmp ?_
    tlg_ne
    refine r_str ?_
    refine c_eqs (br_f (by decide) ?_)
    refine s_nil ?_
    refine t_cons ?_
    refine s_if ?_
    refine t_cmp ?_
    tlg_ne
    refine r_str ?_
    refine c_eqs (br_f (by decide) ?_)
    refine s_nil ?_
    refine t_cons ?_
    refine s_if ?_
    refine t_cmp ?_
    tlg_ne
    refine r_str ?_
    refine c_eqs (br_t rfl ?_)
    refine s_cons ?_
    refine s_assign ?_
    refine m_own ?_
    tlg_ne
    refine met_t 18 (by decide) (by lcg_sub) (by lcg_sub) (by decide) ?_ mN18
    refine a_cons ?_
    tlg_ne
    refine a_nil ?_
    refine CD.cl (get_ok P (j := 18) (by decide) (by lcg_src) hi hz (hr'.le (by decide)) (by simp) (by simp) (by simp) (fun _ => ?_))
    isplit
    refine t_cons ?_
    refine s_ret ?_
    refine r_ifexp ?_
    refine t_cmp ?_
    tlg_ne
    refine r_none ?_
    cases hp : nd.par with
    | none =>
      rw [hp] at h
      refine c_is rfl (br_t rfl ?_)
      refine r_list ?_
      refine a_nil ?_
      refine ⟨by simp, fun r => ?_⟩
      refine thr ?_
      refine thr ?_
      exact ⟨_, by tb_rel, h r⟩
    | some p =>
      rw [hp] at h
      refine c_is rfl (br_f rfl ?_)
      refine r_list ?_
      refine a_cons ?_
      tlg_ne
      refine a_nil ?_
      refine ⟨by simp, fun r => ?_⟩
      refine thr ?_
      refine thr ?_
      exact ⟨_, by tb_rel, h r⟩
  | attrs =>
    rw [kinds_of hi, hi] at h
    dsimp only [Option.map_some, Option.getD_some] at h
    refine cd_fn (P.fdef 11 (by decide)).1 (m := [("tree", some (.ref t.x)), ("node", some (.int i)), ("name", some (.str "attribute")), ("parent", none)]) (names := [("tree", .local), ("node", .local), ("name", .local), ("parent", .local), ("list", .globalImplicit), ("siblings_behind", .globalImplicit), ("siblings_ahead", .globalImplicit), ("namespaces_in_scope", .globalImplicit)]) (ps := ["tree", "node", "name"]) (others := ["parent"]) rfl rfl (fun doc pm cdv ct => bind3 fun v0 v1 v2 => rfl) (by decide) rfl (k := 9) hr ?_
    intro env L A' hE hr'
    refine s_cons ?_
    refine s_if ?_
    refine t_cmp ?_
    tlg_ne
    refine r_str ?_
    refine c_eqs (br_f (by decide) ?_)
    refine s_nil ?_
    refine t_cons ?_
    refine s_if ?_
    refine t_cmp ?_
    tlg_ne
    refine r_str ?_
    refine c_eqs (br_f (by decide) ?_)
    refine s_nil ?_
    refine t_cons ?_
    refine s_if ?_
    refine t_cmp ?_
    tlg_ne
    refine r_str ?_
    refine c_eqs (br_f (by decide) ?_)
    refine s_nil ?_
    refine t_cons ?_
    refine s_if ?_
    refine t_cmp ?_
    tlg_ne
    refine r_str ?_
    refine c_eqs (br_t rfl ?_)
    refine s_cons ?_
    refine s_ret ?_
    refine r_ifexp ?_
    refine t_cmp ?_
    refine m_own ?_
    tlg_ne
    refine met_t 13 (by decide) (by lcg_sub) (by lcg_sub) (by decide) ?_ mN13
    refine a_cons ?_
    tlg_ne
    refine a_nil ?_
    refine CD.cl (get_ok P (j := 13) (by decide) (by lcg_src) hi hz (hr'.le (by decide)) (fun _ => ?_) (by simp) (by simp) (by simp))
    refine r_str ?_
    refine c_eqs ⟨fun e => ?_, fun e => ?_⟩
    · rw [if_pos (eq_of_beq e)] at h
      refine rc_list (by assumption) (by assumption) (by lcg_sub) ?_
      refine m_own ?_
      tlg_ne
      refine met_t 20 (by decide) (by lcg_sub) (by lcg_sub) (by decide) ?_ mN20
      refine a_cons ?_
      tlg_ne
      refine a_nil ?_
      refine CD.cl (attributes_ok P (by lcg_src) hi hz (by omega) (hr'.le (by decide)) fun r => ?_)
      refine b_list (by lcg_sub) (by first | exact len_map_le (len_map_le (by omega)) | exact len_map_le (by omega) | (simp only [List.length_map]; omega)) fun r2 => ?_
      refine thr ?_
      refine thr ?_
      exact ⟨_, by tb_rel, h r2⟩
    · rw [if_neg (fun q => by rw [q] at e; simp at e)] at h
      refine r_list ?_
      refine a_nil ?_
      refine ⟨by simp, fun r => ?_⟩
      refine thr ?_
      refine thr ?_
      exact ⟨_, by tb_rel, h r⟩
  | behind =>
    rw [behindN_of hi] at h
    refine cd_fn (P.fdef 11 (by decide)).1 (m := [("tree", some (.ref t.x)), ("node", some (.int i)), ("name", some (.str "following-sibling")), ("parent", none)]) (names := [("tree", .local), ("node", .local), ("name", .local), ("parent", .local), ("list", .globalImplicit), ("siblings_behind", .globalImplicit), ("siblings_ahead", .globalImplicit), ("namespaces_in_scope", .globalImplicit)]) (ps := ["tree", "node", "name"]) (others := ["parent"]) rfl rfl (fun doc pm cdv ct => bind3 fun v0 v1 v2 => rfl) (by decide) rfl (k := 9) hr ?_
    intro env L A' hE hr'
    refine s_cons ?_
    refine s_if ?_
    refine t_cmp ?_
    tlg_ne
    refine r_str ?_
    refine c_eqs (br_f (by decide) ?_)
    refine s_nil ?_
    refine t_cons ?_
    refine s_if ?_
    refine t_cmp ?_
    tlg_ne
    refine r_str ?_
    refine c_eqs (br_f (by decide) ?_)
    refine s_nil ?_
    refine t_cons ?_
    refine s_if ?_
    refine t_cmp ?_
    tlg_ne
    refine r_str ?_
    refine c_eqs (br_f (by decide) ?_)
    refine s_nil ?_
    refine t_cons ?_
    refine s_if ?_
    refine t_cmp ?_
    tlg_ne
    refine r_str ?_
    refine c_eqs (br_f (by decide) ?_)
    refine s_nil ?_
    refine t_cons ?_
    refine s_if ?_
    refine t_cmp ?_
    tlg_ne
    refine r_str ?_
    refine c_eqs (br_t rfl ?_)
    refine s_cons ?_
    refine s_ret ?_
    refine r_callf (by assumption) 6 (by decide) (by assumption) (by lcg_sub) ?_ fN6
    refine a_cons ?_
    tlg_ne
    refine a_cons ?_
    tlg_ne
    refine a_nil ?_
    refine CD.cl (siblingsBehind_ok P (by lcg_src) G hi (hr'.le (by decide)) fun r => ?_)
    refine thr ?_
    refine thr ?_
    exact ⟨_, by tb_rel, h r⟩
  | ahead =>
    rw [aheadN_of hi] at h
    refine cd_fn (P.fdef 11 (by decide)).1 (m := [("tree", some (.ref t.x)), ("node", some (.int i)), ("name", some (.str "preceding-sibling")), ("parent", none)]) (names := [("tree", .local), ("node", .local), ("name", .local), ("parent", .local), ("list", .globalImplicit), ("siblings_behind", .globalImplicit), ("siblings_ahead", .globalImplicit), ("namespaces_in_scope", .globalImplicit)]) (ps := ["tree", "node", "name"]) (others := ["parent"]) rfl rfl (fun doc pm cdv ct => bind3 fun v0 v1 v2 => rfl) (by decide) rfl (k := 9) hr ?_
    intro env L A' hE hr'
    refine s_cons ?_
    refine s_if ?_
    refine t_cmp ?_
    tlg_ne
    refine r_str ?_
    refine c_eqs (br_f (by decide) ?_)
    refine s_nil ?_
    refine t_cons ?_
    refine s_if ?_
    refine t_cmp ?_
    tlg_ne
    refine r_str ?_
    refine c_eqs (br_f (by decide) ?_)
    refine s_nil ?_
    refine t_cons ?_
    refine s_if ?_
    refine t_cmp ?_
    tlg_ne
    refine r_str ?_
    refine c_eqs (br_f (by decide) ?_)
    refine s_nil ?_
    refine t_cons ?_
    refine s_if ?_
    refine t_cmp ?_
    tlg_ne
    refine r_str ?_
    refine c_eqs (br_f (by decide) ?_)
    refine s_nil ?_
    refine t_cons ?_
    refine s_if ?_
    refine t_cmp ?_
    tlg_ne
    refine r_str ?_
    refine c_eqs (br_f (by decide) ?_)
    refine s_nil ?_
    refine t_cons ?_
    refine s_if ?_
    refine t_cmp ?_
    tlg_ne
    refine r_str ?_
    refine c_eqs (br_t rfl ?_)
    refine s_cons ?_
    refine s_ret ?_
    refine r_callf (by assumption) 5 (by decide) (by assumption) (by lcg_sub) ?_ fN5
    refine a_cons ?_
    tlg_ne
    refine a_cons ?_
    tlg_ne
    refine a_nil ?_
    refine CD.cl (siblingsAhead_ok P (by lcg_src) G hi (hr'.le (by decide)) fun r => ?_)
    refine thr ?_
    refine thr ?_
    exact ⟨_, by tb_rel, h r⟩
  | @ns as hC has hW hnd hv =>
    rw [kinds_of hi] at h
    rw [pars_of hi] at hC
    refine cd_fn (P.fdef 11 (by decide)).1 (m := [("tree", some (.ref t.x)), ("node", some (.int i)), ("name", some (.str "namespace")), ("parent", none)]) (names := [("tree", .local), ("node", .local), ("name", .local), ("parent", .local), ("list", .globalImplicit), ("siblings_behind", .globalImplicit), ("siblings_ahead", .globalImplicit), ("namespaces_in_scope", .globalImplicit)]) (ps := ["tree", "node", "name"]) (others := ["parent"]) rfl rfl (fun doc pm cdv ct => bind3 fun v0 v1 v2 => rfl) (by decide) rfl (k := 9) hr ?_
    intro env L A' hE hr'
    refine s_cons ?_
    refine s_if ?_
    refine t_cmp ?_
    tlg_ne
    refine r_str ?_
    refine c_eqs (br_f (by decide) ?_)
    refine s_nil ?_
    refine t_cons ?_
    refine s_if ?_
    refine t_cmp ?_
    tlg_ne
    refine r_str ?_
    refine c_eqs (br_f (by decide) ?_)
    refine s_nil ?_
    refine t_cons ?_
    refine s_if ?_
    refine t_cmp ?_
    tlg_ne
    refine r_str ?_
    refine c_eqs (br_f (by decide) ?_)
    refine s_nil ?_
    refine t_cons ?_
    refine s_if ?_
    refine t_cmp ?_
    tlg_ne
    refine r_str ?_
    refine c_eqs (br_f (by decide) ?_)
    refine s_nil ?_
    refine t_cons ?_
    refine s_if ?_
    refine t_cmp ?_
    tlg_ne
    refine r_str ?_
    refine c_eqs (br_f (by decide) ?_)
    refine s_nil ?_
    refine t_cons ?_
    refine s_if ?_
    refine t_cmp ?_
    tlg_ne
    refine r_str ?_
    refine c_eqs (br_f (by decide) ?_)
    refine s_nil ?_
    refine t_cons ?_
    refine s_if ?_
    refine t_cmp ?_
    tlg_ne
    refine r_str ?_
    refine c_eqs (br_t rfl ?_)
    refine s_cons ?_
    refine s_ret ?_
    refine r_callf (by assumption) 10 (by decide) (by assumption) (by lcg_sub) ?_ fN10
    refine a_cons ?_
    tlg_ne
    refine a_cons ?_
    tlg_ne
    refine a_nil ?_
    refine CD.cl (nsScope_ok P (by lcg_src) G hi hC has hW hnd hv (hr'.le (by decide)) fun r => ?_)
    refine thr ?_
    refine thr ?_
    exact ⟨_, by tb_rel, h r⟩
theorem shortNone_ok (P : PX Z) {t : TreeA} {i : Nat} {nm : Str} {Q : AV → Led → Prop} (hn : nm ∈ (["descendant", "descendant-or-self", "ancestor", "ancestor-or-self", "following", "preceding", "up"] : List Str)) (hr : Room A 10)
    (h : Q .none l) : CD Z A (.ref (P.fa 11)) [.ref t.x, .int i, .str nm] l Q X := by
  have hd : ∀ x ∈ (["child", "self", "parent", "attribute", "following-sibling", "preceding-sibling", "namespace"] : List Str), (nm == x) = false := by
    revert nm
    decide
  refine cd_fn (P.fdef 11 (by decide)).1 (m := [("tree", some (.ref t.x)), ("node", some (.int i)), ("name", some (.str nm)), ("parent", none)]) (names := [("tree", .local), ("node", .local), ("name", .local), ("parent", .local), ("list", .globalImplicit), ("siblings_behind", .globalImplicit), ("siblings_ahead", .globalImplicit), ("namespaces_in_scope", .globalImplicit)]) (ps := ["tree", "node", "name"]) (others := ["parent"]) rfl rfl (fun doc pm cdv ct => bind3 fun v0 v1 v2 => rfl) (by decide) rfl (k := 9) hr ?_
  intro env L A' hE hr'
  refine s_cons ?_
  refine s_if ?_
  refine t_cmp ?_
  tlg_ne
  refine r_str ?_
  refine c_eqs (br_f (hd _ (by decide)) ?_)
  refine s_nil ?_
  refine t_cons ?_
  refine s_if ?_
  refine t_cmp ?_
  tlg_ne
  refine r_str ?_
  refine c_eqs (br_f (hd _ (by decide)) ?_)
  refine s_nil ?_
  refine t_cons ?_
  refine s_if ?_
  refine t_cmp ?_
  tlg_ne
  refine r_str ?_
  refine c_eqs (br_f (hd _ (by decide)) ?_)
  refine s_nil ?_
  refine t_cons ?_
  refine s_if ?_
  refine t_cmp ?_
  tlg_ne
  refine r_str ?_
  refine c_eqs (br_f (hd _ (by decide)) ?_)
  refine s_nil ?_
  refine t_cons ?_
  refine s_if ?_
  refine t_cmp ?_
  tlg_ne
  refine r_str ?_
  refine c_eqs (br_f (hd _ (by decide)) ?_)
  refine s_nil ?_
  refine t_cons ?_
  refine s_if ?_
  refine t_cmp ?_
  tlg_ne
  refine r_str ?_
  refine c_eqs (br_f (hd _ (by decide)) ?_)
  refine s_nil ?_
  refine t_cons ?_
  refine s_if ?_
  refine t_cmp ?_
  tlg_ne
  refine r_str ?_
  refine c_eqs (br_f (hd _ (by decide)) ?_)
  refine s_nil ?_
  refine t_cons ?_
  refine s_ret ?_
  refine r_none ?_
  refine thr ?_
  exact ⟨_, by tb_rel, h⟩
end
theorem nl_erase {xs : List Nat} {k : Nat} : (nl xs).erase (k : Int) = nl (xs.erase k) := by
  induction xs with
  | nil => rfl
  | cons a r ih =>
    simp only [nl, List.map_cons, List.erase_cons] at ih ⊢
    by_cases h : a = k
    · subst h; simp
    · have : ¬ ((a : Int) = k) := by omega
      rw [ih, beq_false_of_ne h, beq_false_of_ne this]
      rfl
noncomputable def NodeA.lst (n : NodeA) (k : Str) : List Nat := if k = "attribute" then n.at' else if k = "namespace" then n.ns else n.ch
noncomputable def NodeA.lstA (n : NodeA) (k : Str) : Addr := if k = "attribute" then n.a else if k = "namespace" then n.n else n.c
noncomputable def NodeA.del (n : NodeA) (k : Str) (i : Nat) : NodeA := if k = "attribute" then { n with at' := n.at'.erase i } else if k = "namespace" then { n with ns := n.ns.erase i } else { n with ch := n.ch.erase i }
noncomputable def NodeA.loose (n : NodeA) : NodeA := { n with par := none }
theorem del_x {n : NodeA} {k : Str} {i : Nat} : (n.del k i).x = n.x := by
  unfold NodeA.del
  split
  · rfl
  · split <;> rfl
section
variable {Z : Amb} {A : Around} {l : Led} {X : Value → Shared → Prop}
theorem listAbove_ok (P : PX Z) {t : TreeA} {i p : Nat} {nd pn : NodeA} {Q : AV → Led → Prop} (hT : In (treeLed P t) l) (G : t.Good) (hi : t.rows[i]? = some nd) (hp : nd.par = some p) (hpn : t.rows[p]? = some pn) (hr : Room A 6)
    (h : Q (.ref (pn.lstA nd.kind)) l) : CD Z A (.ref (P.fa 16)) [.ref t.x, .int i] l Q X := by
  have m1 := tree_in1 hT
  have m2 := tree_in2 hT
  have m3 := tree_in3 hT
  have n1 := node_in1 hT (List.mem_of_getElem? hpn)
  have n2 := node_in2 hT (List.mem_of_getElem? hpn)
  have n3 := node_in3 hT (List.mem_of_getElem? hpn)
  have n4 := node_in4 hT (List.mem_of_getElem? hpn)
  have n5 := node_in5 hT (List.mem_of_getElem? hpn)
  have hz : t.rows.length ≤ 100 := Nat.le_trans G.size (by decide)
  refine cd_fn (P.fdef 16 (by decide)).1 (m := [("tree", some (.ref t.x)), ("node", some (.int i)), ("row", none), ("kind", none)]) (names := [("tree", .local), ("node", .local), ("row", .local), ("kind", .local)]) (ps := ["tree", "node"]) (others := ["row", "kind"]) rfl rfl (fun doc pm cdv ct => bind2 fun v0 v1 => rfl) (by decide) rfl (k := 5) hr ?_
  intro env L A' hE hr'
  refine s_cons ?_
  refine s_assign ?_
  refine m_own ?_
  tlg_ne
  refine met_t 2 (by decide) (by lcg_sub) (by lcg_sub) (by decide) ?_ mN2
  refine a_cons ?_
  refine m_own ?_
  tlg_ne
  refine met_t 18 (by decide) (by lcg_sub) (by lcg_sub) (by decide) ?_ mN18
  refine a_cons ?_
  tlg_ne
  refine a_nil ?_
  refine CD.cl (get_ok P (j := 18) (by decide) (by lcg_src) hi hz (hr'.le (by decide)) (by simp) (by simp) (by simp) (fun _ => ?_))
  rw [hp]
  refine a_nil ?_
  refine CD.cl (row_ok P (by lcg_src) hpn hz (hr'.le (by decide)) ?_)
  isplit
  refine t_cons ?_
  refine s_assign ?_
  refine m_own ?_
  tlg_ne
  refine met_t 13 (by decide) (by lcg_sub) (by lcg_sub) (by decide) ?_ mN13
  refine a_cons ?_
  tlg_ne
  refine a_nil ?_
  refine CD.cl (get_ok P (j := 13) (by decide) (by lcg_src) hi hz (hr'.le (by decide)) (fun _ => ?_) (by simp) (by simp) (by simp))
  isplit
  refine t_cons ?_
  refine s_if ?_
  refine t_cmp ?_
  tlg_ne
  refine r_str ?_
  unfold NodeA.lstA at h
  refine c_eqs ⟨fun e => ?_, fun e => ?_⟩
  · rw [if_pos (eq_of_beq e)] at h
    refine s_cons ?_
    refine s_ret ?_
    refine r_attr ?_
    tlg_ne
    first | refine att_tree (by lcg_sub) (by lcg_sub) rfl ?_ | refine att_node (by lcg_sub) (by lcg_sub) (by first | (with_reducible exact nd_1) | (with_reducible exact nd_2) | (with_reducible exact nd_3) | (with_reducible exact nd_4) | (with_reducible exact nd_5) | (with_reducible exact nd_6) | (with_reducible exact nd_7) | (with_reducible exact nd_8) | (with_reducible exact nd_9)) (by first | rfl | assumption) ?_ | refine AttK.mk _ _ _ _ _ rfl (by lcg_sub) (by lcg_sub) (by lcg_sub) (by first | exact PX.aT _ | exact (PX.aN _ _ (by decide)).1) (by first | rfl | assumption) ?_
    refine thr ?_
    refine thr ?_
    exact ⟨_, by tb_rel, h⟩
  · rw [if_neg (fun q => by rw [q] at e; simp at e)] at h
    refine s_nil ?_
    refine t_cons ?_
    refine s_ret ?_
    refine r_ifexp ?_
    refine t_cmp ?_
    tlg_ne
    refine r_str ?_
    refine c_eqs ⟨fun e => ?_, fun e => ?_⟩
    · rw [if_pos (eq_of_beq e)] at h
      refine r_attr ?_
      tlg_ne
      first | refine att_tree (by lcg_sub) (by lcg_sub) rfl ?_ | refine att_node (by lcg_sub) (by lcg_sub) (by first | (with_reducible exact nd_1) | (with_reducible exact nd_2) | (with_reducible exact nd_3) | (with_reducible exact nd_4) | (with_reducible exact nd_5) | (with_reducible exact nd_6) | (with_reducible exact nd_7) | (with_reducible exact nd_8) | (with_reducible exact nd_9)) (by first | rfl | assumption) ?_ | refine AttK.mk _ _ _ _ _ rfl (by lcg_sub) (by lcg_sub) (by lcg_sub) (by first | exact PX.aT _ | exact (PX.aN _ _ (by decide)).1) (by first | rfl | assumption) ?_
      refine thr ?_
      exact ⟨_, by tb_rel, h⟩
    · rw [if_neg (fun q => by rw [q] at e; simp at e)] at h
      refine r_attr ?_
      tlg_ne
      first | refine att_tree (by lcg_sub) (by lcg_sub) rfl ?_ | refine att_node (by lcg_sub) (by lcg_sub) (by first | (with_reducible exact nd_1) | (with_reducible exact nd_2) | (with_reducible exact nd_3) | (with_reducible exact nd_4) | (with_reducible exact nd_5) | (with_reducible exact nd_6) | (with_reducible exact nd_7) | (with_reducible exact nd_8) | (with_reducible exact nd_9)) (by first | rfl | assumption) ?_ | refine AttK.mk _ _ _ _ _ rfl (by lcg_sub) (by lcg_sub) (by lcg_sub) (by first | exact PX.aT _ | exact (PX.aN _ _ (by decide)).1) (by first | rfl | assumption) ?_
      refine thr ?_
      exact ⟨_, by tb_rel, h⟩
theorem remove_ok (P : PX Z) {t : TreeA} {i p : Nat} {nd pn : NodeA} {Q : AV → Led → Prop} (G : t.Good) (hi : t.rows[i]? = some nd) (hp : nd.par = some p) (hpn : t.rows[p]? = some pn) (hne : p ≠ i) (hmem : i ∈ pn.lst nd.kind) (hr : Room A 8)
    (h : Q .none (treeLed P ((t.mod p (·.del nd.kind i)).mod i (·.loose)) ++ l)) : CD Z A (.ref (P.fa 17)) [.ref t.x, .int i] (treeLed P t ++ l) Q X := by
  have hT : In (treeLed P t) (treeLed P t ++ l) := In.app
  have m1 := tree_in1 hT
  have m2 := tree_in2 hT
  have m3 := tree_in3 hT
  have hz : t.rows.length ≤ 100 := Nat.le_trans G.size (by decide)
  have hcl := G.chl _ (List.mem_of_getElem? hpn)
  have hal := G.atl _ (List.mem_of_getElem? hpn)
  have hnl := G.nsl _ (List.mem_of_getElem? hpn)
  refine cd_fn (P.fdef 17 (by decide)).1 (m := [("tree", some (.ref t.x)), ("node", some (.int i))]) (names := [("tree", .local), ("node", .local), ("TreeFault", .globalImplicit), ("list_above", .globalImplicit)]) (ps := ["tree", "node"]) (others := []) rfl rfl (fun doc pm cdv ct => bind2 fun v0 v1 => rfl) (by decide) rfl (k := 7) hr ?_
  intro env L A' hE hr'
  refine s_cons ?_
  refine s_if ?_
  refine t_cmp ?_
  refine m_own ?_
  tlg_ne
  refine met_t 18 (by decide) (by lcg_sub) (by lcg_sub) (by decide) ?_ mN18
  refine a_cons ?_
  tlg_ne
  refine a_nil ?_
  refine CD.cl (get_ok P (j := 18) (by decide) (by lcg_src) hi hz (hr'.le (by decide)) (by simp) (by simp) (by simp) (fun _ => ?_))
  rw [hp]
  refine r_none ?_
  refine c_is rfl (br_f rfl ?_)
  refine s_nil ?_
  refine thn ?_
  refine s_cons ?_
  refine s_expr (by assumption) ?_
  refine m_remove ?_
  refine r_callf (by assumption) 16 (by decide) (by assumption) (by lcg_sub) ?_ fN16
  refine a_cons ?_
  tlg_ne
  refine a_cons ?_
  tlg_ne
  refine a_nil ?_
  refine CD.cl (listAbove_ok P (by lcg_src) G hi hp hpn (hr'.le (by decide)) ?_)
  obtain ⟨rest, e1, e2⟩ := tree_split (P := P) hpn
  have hi' : (t.mod p (·.del nd.kind i)).rows[i]? = some nd := by
    show (t.rows.modify p _)[i]? = _
    rw [List.getElem?_modify]
    simp [hne, hi]
  obtain ⟨rest2, f1, f2⟩ := tree_split (P := P) hi'
  have e3 := e2 (pn.del nd.kind i) del_x
  rw [set_eq_mod hpn (f := (·.del nd.kind i))] at e3
  have f3 := f2 nd.loose rfl
  rw [set_eq_mod hi' (f := (·.loose))] at f3
  have key : ∀ M : Led, Up1 (pn.lstA nd.kind) (.list (inl (pn.lst nd.kind))) (.list (inl ((pn.lst nd.kind).erase i))) (nodeLed P pn ++ M) (nodeLed P (pn.del nd.kind i) ++ M) := by
    intro M
    unfold NodeA.lstA NodeA.lst NodeA.del
    split
    · exact .tail (.tail (.tail .head))
    · split
      · exact .tail (.tail (.tail (.tail .head)))
      · exact .tail (.tail .head)
  have hlen : (pn.lst nd.kind).length ≤ 50 := by
    unfold NodeA.lst
    split
    · exact hal
    · split
      · exact hnl
      · exact hcl
  have hmb : ∀ M : Led, (pn.lstA nd.kind, AObj.list (inl (pn.lst nd.kind))) ∈ nodeLed P pn ++ M := fun M => (key M).mem
  have hmb2 : (pn.lstA nd.kind, AObj.list (inl (pn.lst nd.kind))) ∈ treeLed P t ++ l := List.mem_append_left _ (e1.symm.subset (hmb _))
  refine ⟨_, rfl, ⟨_, by lcg_sub⟩, ?_⟩
  refine TR.subperm (l2 := (L, _) :: (nodeLed P pn ++ (_ ++ l))) ?_ (.cons (.ofPerm (by rw [← List.append_assoc]; exact e1.symm.append_right l)))
  tlg_ne
  refine ⟨nl (pn.lst nd.kind), i, _, rfl, .tail (by rw [nl_erase]; exact key _), List.mem_map_of_mem hmem, by first | exact len_map_le (len_map_le (by omega)) | exact len_map_le (by omega) | (simp only [List.length_map]; omega), ?_⟩
  refine thn ?_
  refine TR.subperm (l2 := (L, .frame [("tree", some (.ref t.x)), ("node", some (.int i))]) :: (treeLed P (t.mod p (·.del nd.kind i)) ++ l)) ?_ (.cons (join_Sb e3))
  have hT2 : In (treeLed P (t.mod p (·.del nd.kind i))) (treeLed P (t.mod p (·.del nd.kind i)) ++ l) := In.app
  have m1 := tree_in1 hT2
  have m2 := tree_in2 hT2
  have m3 := tree_in3 hT2
  refine s_cons ?_
  refine s_setattr ?_
  refine r_none ?_
  refine m_own ?_
  tlg_ne
  refine met_t 2 (by decide) (by lcg_sub) (by lcg_sub) (by decide) ?_ mN2
  refine a_cons ?_
  tlg_ne
  refine a_nil ?_
  refine CD.cl (row_ok P (t := t.mod p (·.del nd.kind i)) (by lcg_src) hi' (by simpa [TreeA.mod] using hz) (hr'.le (by decide)) ?_)
  intro vo e v ev'
  refine TR.subperm (l2 := (L, _) :: (nodeLed P nd ++ (_ ++ l))) ?_ (.cons (.ofPerm (by rw [← List.append_assoc]; exact f1.symm.append_right l)))
  refine st_attr (x := nd.x) (C := P.cN) (d := nd.d) (fs := nodeD nd) (fs' := nodeD nd.loose) (.tail _ (.head _)) (.tail (.tail .head)) (.tail (.tail (.tail (.tail (.tail .head))))) (P.aN _ (by decide)).2 (by simp) ?_ vo e v ev'
  refine thn ?_
  refine TR.subperm (l2 := (L, .frame [("tree", some (.ref t.x)), ("node", some (.int i))]) :: (treeLed P ((t.mod p (·.del nd.kind i)).mod i (·.loose)) ++ l)) ?_ (.cons (join_Sb f3))
  refine s_nil ?_
  exact Up.drop (Up.here h)
end
noncomputable def FrOk (fr : List Env) (l : Led) : Prop := ∀ env ∈ fr, env.scope.kind = .function ∧ ∃ L m, env.frame = some L ∧ (L, AObj.frame m) ∈ l
theorem FrOk.mono {fr : List Env} {l l' : Led} (h : FrOk fr l) (hs : ∀ p ∈ l, p ∈ l') : FrOk fr l' := fun env he => let ⟨h1, L, m, h2, h3⟩ := h env he; ⟨h1, L, m, h2, hs _ h3⟩
theorem FrOk.cons {fr : List Env} {l : Led} {env : Env} {L : Addr} {m : List (Str × Option AV)} (h : FrOk fr l) (hk : env.scope.kind = .function) (hf : env.frame = some L) (hm : (L, AObj.frame m) ∈ l) : FrOk (env :: fr) l := fun e he => by
  rcases List.mem_cons.mp he with rfl | he
  · exact ⟨hk, L, m, hf, hm⟩
  · exact h e he
noncomputable def Flown (Z : Amb) (C : Addr) (fr : List Env) (l : Led) (v : Value) (s : Shared) : Prop :=
  ∃ e base a0, v = .ref e ∧ Sat Z l s ∧ Heap.FlyingW base fr e (.ref C) a0 s.heap ∧ (∀ b o, Z.h₀.get? b = some o → base.get? b = some o) ∧ (∀ p ∈ l, (∃ m, p.2 = .frame m) ∨ (base.get? p.1).isSome = true) ∧ l ≠ []
noncomputable def Fresh (Z : Amb) (C : Addr) (l : Led) (v : Value) (s : Shared) : Prop := ∃ e, v = .ref e ∧ Sat Z ((e, .exc C false) :: l) s
theorem pair_eq : ∀ {l : Led} {a : Addr} {o : AObj} {p : Addr × AObj}, (l.map (·.1)).Nodup → p ∈ l → (p.1, o) ∈ l → p = (p.1, o)
  | [], _, _, _, _, h, _ => (nomatch h)
  | q :: r, a, o, p, hn, h1, h2 => by
    simp only [List.map_cons, List.nodup_cons] at hn
    rcases List.mem_cons.mp h1 with rfl | h1
    · rcases List.mem_cons.mp h2 with e | h2
      · exact e.symm
      · exact absurd (List.mem_map_of_mem (f := (·.1)) h2) hn.1
    · rcases List.mem_cons.mp h2 with e | h2
      · exact absurd (List.mem_map_of_mem (f := (·.1)) h1) (by rw [← e] at hn; exact hn.1)
      · exact pair_eq (a := a) hn.2 h1 h2
section
variable {Z : Amb} {A : Around} {l : Led} {C : Addr} {fr : List Env}
theorem Flown.mono {v : Value} {s : Shared} {l' : Led} (h : Flown Z C fr l v s) (hs : Sb l' l) (hne : l' ≠ []) : Flown Z C fr l' v s := by
  obtain ⟨e, base, a0, h1, h2, h3, h4, h5, _⟩ := h
  refine ⟨e, base, a0, h1, h2.subperm hs, h3, h4, fun p hp => h5 p ?_, hne⟩
  obtain ⟨m, h6, h7⟩ := hs
  exact h7.subset (h6.mem_iff.mp hp)
theorem Sat.slots {s : Shared} {base h' : Heap} {tk : Nat} (hs : Sat Z l s) (k1 : base.StaysIn s.heap) (k2 : base.StaysIn h') (sm : s.heap.UpToSlots h') (k0 : ∀ b o, Z.h₀.get? b = some o → base.get? b = some o)
    (kl : ∀ p ∈ l, (∃ m, p.2 = .frame m) ∨ (base.get? p.1).isSome = true) (hne : l ≠ []) : Sat Z l { s with heap := h', toks := tk } := by
  obtain ⟨hp, t, rfl, R⟩ := hs
  have objs : ∀ p ∈ l, Z.h₀.objs.size ≤ p.1 ∧ ∃ ob, h'.get? p.1 = some ob ∧ p.2.Is Z.prog Z.w ob := by
    intro p hpl
    obtain ⟨h1, ob, h2, h3⟩ := R.objs p hpl
    refine ⟨h1, ?_⟩
    rcases kl p hpl with ⟨m, hm⟩ | hb
    · rw [hm] at h3 ⊢
      obtain ⟨hn, es, ep, hd, hk, hl⟩ := h3
      obtain ⟨sl, hsl⟩ := sm p.1 ob h2 fun vs q => by rw [hd] at q; cases q
      exact ⟨_, hsl, hn, es, ep, hd, hk, hl⟩
    · obtain ⟨o, ho⟩ := Option.isSome_iff_exists.mp hb
      have e1 := k1 _ _ ho
      rw [h2] at e1
      cases e1
      exact ⟨_, k2 _ _ ho, h3⟩
  cases l with
  | nil => exact absurd rfl hne
  | cons p r =>
    obtain ⟨q1, ob', q2, _⟩ := objs p (.head _)
    exact ⟨h', tk, rfl, fun b o e => k2 b o (k0 b o e), R.nd, objs, p.1, ob', q1, q2⟩
theorem leave_next {X : Value → Shared → Prop} {env : Env} {L : Addr} {v : Value} {s : Shared} (hf : env.frame = some L) (hA : A.frames = some (env :: fr)) (h : Flown Z C (env :: fr) l v s) :
    wpAny Z.M A (leaving env v) (fun _ s' => Flown Z C fr l v s') X s := by
  obtain ⟨e, base, a0, rfl, h2, h3, h4, h5, hne⟩ := h
  exact wpAny_leaves_onW hA hf h3 fun h' k1 k2 => ⟨e, base, a0, rfl, (h2.slots (tk := s.toks) h3.1 k1.1 k2 h4 h5 hne), k1, h4, h5, hne⟩
theorem frames_at {s : Shared} {base : Heap} : ∀ {fr : List Env}, Sat Z l s → FrOk fr l → (∀ env ∈ fr, ∀ L, env.frame = some L → base.get? L = none) → s.heap.FunFrames base fr
  | [], _, _, _ => trivial
  | env :: fr, hs, hk, hb => by
    obtain ⟨h1, L, m, h2, h3⟩ := hk env (.head _)
    obtain ⟨_, ob, ho, hn, es, ep, hd, _⟩ := hs.obj h3
    refine ⟨by rw [h1]; decide, ⟨L, ob, h2, hb env (.head _) L h2, ho, fun vs q => by rw [hd] at q; cases q⟩, frames_at hs (fun e he => hk e (.tail _ he)) fun e he => hb e (.tail _ he)⟩
theorem leave_first {X : Value → Shared → Prop} {env : Env} {L : Addr} {v : Value} {s : Shared} (hf : env.frame = some L) (hA : A.frames = some (env :: fr)) (hk : FrOk (env :: fr) l) (hne : l ≠ []) (h : Fresh Z C l v s) :
    wpAny Z.M A (leaving env v) (fun _ s' => Flown Z C fr l v s') X s := by
  obtain ⟨e, rfl, hs⟩ := h
  have hsl : Sat Z l s := hs.sub (List.sublist_cons_self _ _)
  obtain ⟨hz, oe, he, hcls, _, t, hd⟩ := hs.obj (.head _)
  have hnd : ((((e, AObj.exc C false) : Addr × AObj) :: l).map (·.1)).Nodup := by obtain ⟨_, _, _, R⟩ := hs; exact R.nd
  simp only [List.map_cons, List.nodup_cons] at hnd
  have fa : ∀ b ∈ e :: (env :: fr).filterMap (·.frame), b = e ∨ ∃ m, (b, AObj.frame m) ∈ l := by
    intro b hb
    rcases List.mem_cons.mp hb with rfl | hb
    · exact .inl rfl
    · obtain ⟨en, h1, h2⟩ := List.mem_filterMap.mp hb
      obtain ⟨_, L', m, h3, h4⟩ := hk en h1
      rw [h2] at h3
      cases h3
      exact .inr ⟨m, h4⟩
  have st : (hideAll s.heap (e :: (env :: fr).filterMap (·.frame))).StaysIn s.heap := fun b o q => of_hideAll _ q
  have none_ : ∀ b ∈ e :: (env :: fr).filterMap (·.frame), (hideAll s.heap (e :: (env :: fr).filterMap (·.frame))).get? b = none := fun b hb => hideAll_none _ hb
  have k0 : ∀ b o, Z.h₀.get? b = some o → (hideAll s.heap (e :: (env :: fr).filterMap (·.frame))).get? b = some o := by
    intro b o hb
    refine hideAll_get _ (hs.keep b o hb) fun hm => ?_
    have hlt := Heap.lt_size hb
    rcases fa b hm with rfl | ⟨m, h⟩
    · exact absurd hlt (Nat.not_lt.mpr hz)
    · exact absurd hlt (Nat.not_lt.mpr (hsl.obj h).1)
  have kl : ∀ p ∈ l, (∃ m, p.2 = .frame m) ∨ ((hideAll s.heap (e :: (env :: fr).filterMap (·.frame))).get? p.1).isSome = true := by
    intro p hp
    by_cases hm : p.1 ∈ e :: (env :: fr).filterMap (·.frame)
    · left
      rcases fa _ hm with h | ⟨m, h⟩
      · exact absurd (h ▸ List.mem_map_of_mem (f := (·.1)) hp) hnd.1
      · refine ⟨m, ?_⟩
        have := pair_eq (a := p.1) hnd.2 hp h
        rw [this]
    · right
      obtain ⟨_, ob, ho, _⟩ := hsl.obj hp
      rw [hideAll_get _ ho hm]; rfl
  refine wpAny_leaving_firstW (base := hideAll s.heap (e :: (env :: fr).filterMap (·.frame))) hA (frames_at hsl hk fun en he L' hL' => none_ _ (.tail _ (List.mem_filterMap.mpr ⟨en, he, hL'⟩))) hf he st (none_ e (.head _)) hd rfl rfl fun h' hL => ?_
  obtain ⟨k1, ⟨_, _, k2⟩, k3, k4⟩ := hL
  exact ⟨e, _, .ref t, rfl, hsl.slots (tk := s.toks) st k1 k4 k0 kl hne, ⟨k1, none_ e (.head _), k2, by rw [← hcls]; exact k3⟩, k0, kl, hne⟩
end
section
variable {Z : Amb} {A : Around} {l : Led} {X : Value → Shared → Prop}
noncomputable abbrev M31 : Int := 2147483647
theorem bits_small {a : Int} (h0 : 0 ≤ a) (h : a < M31) : Builtin.Int.intBits a ≤ 64 := by
  refine Nat.le_trans (intBits_le (k := 31) ?_) (by decide)
  have h1 : a < 2147483647 := h
  have : (2:Nat) ^ 31 = 2147483648 := rfl
  omega
theorem pool_ok (P : PX Z) {sc : Addr} {items : Array Value} {ns : List Int} {Q : AV → Led → Prop} (hs : Z.h₀.IsList sc items) (hi : IntsAre items.toList ns) (hz : items.size ≤ 1000) (hr : Room A 3)
    (h : ∀ so a b, 0 ≤ b → b < M31 → Q (.ref so) ((so, .list [.int a, .int b]) :: l)) : CD Z A (.ref (P.fa 23)) [.ref sc] l Q X := by
  refine cd_fn (P.fdef 23 (by decide)).1 (m := [("script", some (.ref sc)), ("cell", none), ("size", none)]) (names := [("script", .local), ("cell", .local), ("size", .local), ("len", .globalImplicit)]) (ps := ["script"]) (others := ["cell", "size"]) rfl rfl (fun doc pm cdv ct => bind1 fun v0 => rfl) (by decide) rfl (k := 2) hr ?_
  intro env L A' hE hr'
  refine s_cons ?_
  have fin : ∀ c sz : Int, SV Z A' env ((fdB (stAt 23)).drop 2) ((L, .frame [("script", some (.ref sc)), ("cell", some (.int c)), ("size", some (.int sz))]) :: l) (fun fl => Up (Q (retOf fl))) noX := by
    intro c sz
    have key : ∀ x : Int, ∀ env' : Env, (0 ≤ (((sz.fmod 2147483629) + 23) * 48271).fmod 2147483647 ∧ (((sz.fmod 2147483629) + 23) * 48271).fmod 2147483647 < M31) := fun x _ => ⟨Int.fmod_nonneg_of_pos _ (by decide), Int.fmod_lt_of_pos _ (by decide)⟩
    obtain ⟨k1, k2⟩ := key 0 env
    refine s_cons ?_
    refine s_ret ?_
    refine r_list ?_
    refine a_cons ?_
    refine r_ifexp ?_
    refine t_cmp ?_
    tlg_ne
    refine r_binop ?_
    refine r_int ?_
    refine r_int ?_
    refine o_pow (by decide) (by decide) ?_
    refine c_gei ⟨fun _ => ?_, fun _ => ?_⟩
    · tlg_ne
      refine a_cons ?_
      refine r_binop ?_
      refine r_binop ?_
      refine r_binop ?_
      refine r_binop ?_
      tlg_ne
      refine r_int ?_
      refine o_mod (by decide) ?_
      refine r_int ?_
      refine o_add ?_
      refine r_int ?_
      refine o_mul (.of_right (by decide)) ?_
      refine r_int ?_
      refine o_mod (by decide) ?_
      refine a_nil ?_
      refine ⟨by simp, fun so => ?_⟩
      refine thr ?_
      exact ⟨_, by tb_rel, h so _ _ k1 k2⟩
    · refine r_int ?_
      refine a_cons ?_
      refine r_binop ?_
      refine r_binop ?_
      refine r_binop ?_
      refine r_binop ?_
      tlg_ne
      refine r_int ?_
      refine o_mod (by decide) ?_
      refine r_int ?_
      refine o_add ?_
      refine r_int ?_
      refine o_mul (.of_right (by decide)) ?_
      refine r_int ?_
      refine o_mod (by decide) ?_
      refine a_nil ?_
      refine ⟨by simp, fun so => ?_⟩
      refine thr ?_
      exact ⟨_, by tb_rel, h so _ _ k1 k2⟩
  have fin2 : ∀ c : Int, SV Z A' env ((fdB (stAt 23)).drop 1) ((L, .frame [("script", some (.ref sc)), ("cell", some (.int c)), ("size", none)]) :: l) (fun fl => Up (Q (retOf fl))) noX := by
    intro c
    refine s_cons ?_
    refine s_assign ?_
    refine r_ifexp ?_
    refine t_cmp ?_
    tlg_ne
    refine r_int ?_
    refine c_gei ⟨fun _ => ?_, fun _ => ?_⟩
    · tlg_ne
      isplit
      refine thn ?_
      exact fin c c
    · refine r_binop ?_
      refine r_negc ?_
      tlg_ne
      refine o_sub ?_
      isplit
      refine thn ?_
      exact fin c _
  refine s_assign ?_
  refine r_ifexp ?_
  refine t_cmp ?_
  refine rc_len (by assumption) (by assumption) (by lcg_sub) ?_
  tlg_ne
  refine b_lenH hs hz ?_
  refine r_int ?_
  refine c_gti ⟨fun hp => ?_, fun _ => ?_⟩
  · have hp' : 0 < items.size := by have := of_decide_eq_true hp; omega
    obtain ⟨c, tk, hc⟩ : ∃ c tk, items[0] = Value.int c tk := by
      have hm : items[0] ∈ items.toList := by simp
      clear h fin fin2
      generalize items.toList = vs at hi hm
      generalize items[0] = v at hm
      clear hp hp' hz hs
      induction hi with
      | nil => cases hm
      | cons n t _ ih =>
        rcases List.mem_cons.mp hm with rfl | hm
        · exact ⟨_, _, rfl⟩
        · exact ih hm
    refine r_sub ?_
    tlg_ne
    refine r_int ?_
    refine i_listH (v := .int c tk) hs (by decide) (by decide) (by simp [hp', hc]) ?_
    isplit
    refine thn ?_
    exact fin2 c
  · refine r_int ?_
    isplit
    refine thn ?_
    exact fin2 0
theorem take_ok (P : PX Z) {so : Addr} {a b : Int} {top : Nat} {Q : AV → Led → Prop} (hb0 : 0 ≤ b) (hb : b < M31) (ht : 0 < top) (ht2 : top ≤ 1000) (hr : Room A 3)
    (h : ∀ (a' b' : Int) (f : Nat), f < top → 0 ≤ b' → b' < M31 → Q (.int f) ((so, .list [.int a', .int b']) :: l)) : CD Z A (.ref (P.fa 24)) [.ref so, .int top] ((so, .list [.int a, .int b]) :: l) Q X := by
  have htop : (0 : Int) < top := by omega
  have hne : (top : Int) ≠ 0 := by omega
  have hsm : ((top : Int)).natAbs < 1073741824 := by omega
  have fnat : ∀ x : Int, ∃ f : Nat, x.fmod top = f ∧ f < top := by
    intro x
    have h1 := Int.fmod_nonneg_of_pos x htop
    have h2 := Int.fmod_lt_of_pos x htop
    exact ⟨(x.fmod top).toNat, by omega, by omega⟩
  refine cd_fn (P.fdef 24 (by decide)).1 (m := [("source", some (.ref so)), ("top", some (.int top)), ("figure", none)]) (names := [("source", .local), ("top", .local), ("figure", .local)]) (ps := ["source", "top"]) (others := ["figure"]) rfl rfl (fun doc pm cdv ct => bind2 fun v0 v1 => rfl) (by decide) rfl (k := 2) hr ?_
  intro env L A' hE hr'
  refine s_cons ?_
  refine s_if ?_
  refine t_cmp ?_
  refine r_sub ?_
  tlg_ne
  refine r_int ?_
  refine i_list (by lcg_sub) (by decide) (by decide) rfl ?_
  refine r_int ?_
  refine c_gti ⟨fun _ => ?_, fun _ => ?_⟩
  · obtain ⟨f, e1, e2⟩ := fnat a
    refine s_cons ?_
    refine s_assign ?_
    refine r_binop ?_
    refine r_sub ?_
    tlg_ne
    refine r_int ?_
    refine i_list (by lcg_sub) (by decide) (by decide) rfl ?_
    tlg_ne
    refine o_mod hne ?_
    rw [e1]
    isplit
    refine t_cons ?_
    refine s_setitem ?_
    refine r_binop ?_
    refine r_sub ?_
    tlg_ne
    refine r_int ?_
    refine i_list (by lcg_sub) (by decide) (by decide) rfl ?_
    tlg_ne
    refine o_fdiv hne (PyProof.noPylong_small hsm) ?_
    tlg_ne
    refine r_int ?_
    refine si_list (xs := [.int a, .int b]) (k := 0) (by simp) (by simp) (by krn_off) ?_
    refine t_cons ?_
    refine s_ret ?_
    tlg_ne
    refine thr ?_
    refine thr ?_
    exact ⟨_, by tb_rel, h _ _ f e2 hb0 hb⟩
  · have c0 := Int.fmod_nonneg_of_pos (b * 39373 + 7) (b := 2147483647) (by decide)
    have c1 := Int.fmod_lt_of_pos (b * 39373 + 7) (b := 2147483647) (by decide)
    generalize hc : (b * 39373 + 7).fmod 2147483647 = c at c0 c1
    obtain ⟨f, e1, e2⟩ := fnat (((c * c).fmod 2147483629).fdiv 32)
    refine s_nil ?_
    refine t_cons ?_
    refine s_setitem ?_
    refine r_binop ?_
    refine r_binop ?_
    refine r_binop ?_
    refine r_sub ?_
    tlg_ne
    refine r_int ?_
    refine i_list (by lcg_sub) (by decide) (by decide) rfl ?_
    refine r_int ?_
    refine o_mul (.of_right (by decide)) ?_
    refine r_int ?_
    refine o_add ?_
    refine r_int ?_
    refine o_mod (by decide) ?_
    rw [hc]
    tlg_ne
    refine r_int ?_
    refine si_list (xs := [.int a, .int b]) (k := 1) (by simp) (by simp) (by krn_off) ?_
    refine t_cons ?_
    refine s_ret ?_
    refine r_binop ?_
    refine r_binop ?_
    refine r_binop ?_
    refine r_binop ?_
    refine r_sub ?_
    tlg_ne
    refine r_int ?_
    refine i_list (v := .int c) (by lcg_sub) (by decide) (by decide) rfl ?_
    refine r_sub ?_
    tlg_ne
    refine r_int ?_
    refine i_list (v := .int c) (by lcg_sub) (by decide) (by decide) rfl ?_
    refine o_mul (.of_right (bits_small c0 c1)) ?_
    refine r_int ?_
    refine o_mod (by decide) ?_
    refine r_int ?_
    refine o_fdiv (by decide) (PyProof.noPylong_small (by decide)) ?_
    tlg_ne
    refine o_mod hne ?_
    rw [e1]
    refine thr ?_
    exact ⟨_, by tb_rel, h a c f e2 c0 c1⟩
theorem one_ok (P : PX Z) {so th : Addr} {a b : Int} {xs : List AV} {Q : AV → Led → Prop} (hb0 : 0 ≤ b) (hb : b < M31) (hx : xs ≠ []) (hz : xs.length ≤ 1000) (hth : (th, .list xs) ∈ l) (hr : Room A 5)
    (h : ∀ (a' b' : Int) (x : AV), x ∈ xs → 0 ≤ b' → b' < M31 → Q x ((so, .list [.int a', .int b']) :: l)) : CD Z A (.ref (P.fa 25)) [.ref so, .ref th] ((so, .list [.int a, .int b]) :: l) Q X := by
  have hl : 0 < xs.length := List.length_pos_iff.mpr hx
  refine cd_fn (P.fdef 25 (by decide)).1 (m := [("source", some (.ref so)), ("things", some (.ref th))]) (names := [("source", .local), ("things", .local), ("_law_take", .globalImplicit), ("len", .globalImplicit)]) (ps := ["source", "things"]) (others := []) rfl rfl (fun doc pm cdv ct => bind2 fun v0 v1 => rfl) (by decide) rfl (k := 4) hr ?_
  intro env L A' hE hr'
  refine s_cons ?_
  refine s_ret ?_
  refine r_sub ?_
  tlg_ne
  refine r_callf (by assumption) 24 (by decide) (by assumption) (by lcg_sub) ?_ fN24
  refine a_cons ?_
  tlg_ne
  refine a_cons ?_
  refine rc_len (by assumption) (by assumption) (by lcg_sub) ?_
  tlg_ne
  refine b_len (by lcg_sub) hz ?_
  refine a_nil ?_
  refine CL.pull (l2 := (so, .list [.int a, .int b]) :: (L, .frame [("source", some (.ref so)), ("things", some (.ref th))]) :: l) (.swap _ _ _) (take_ok P hb0 hb hl hz (hr'.le (by decide)) fun a' b' f hf h1 h2 => ⟨(so, .list [.int a', .int b']) :: (L, .frame [("source", some (.ref so)), ("things", some (.ref th))]) :: l, Sb.refl, ?_⟩)
  refine i_list (by lcg_sub) (by omega) (by omega) (by rw [Int.toNat_natCast]; exact List.getElem?_eq_getElem hf) ?_
  refine thr ?_
  exact ⟨_, by tb_rel, h a' b' _ (List.getElem_mem hf) h1 h2⟩
end
inductive Blk (T : Led) : Led → (Led → Led) → Led → Prop
  | head {r : Led} : Blk T (T ++ r) (fun T' => T' ++ r) r
  | tail {l r : Led} {f : Led → Led} {a : Addr × AObj} : Blk T l f r → Blk T (a :: l) (fun T' => a :: f T') (a :: r)
theorem Blk.perm {T l r : Led} {f : Led → Led} (h : Blk T l f r) : (T ++ r).Perm l ∧ ∀ T', (f T').Perm (T' ++ r) := by
  induction h with
  | @head r => exact ⟨.refl _, fun T' => .refl _⟩
  | @tail l r f a _ ih =>
    obtain ⟨h1, h2⟩ := ih
    exact ⟨List.perm_middle.trans (h1.cons a), fun T' => ((h2 T').cons a).trans List.perm_middle.symm⟩
inductive Blk1 (p : Addr × AObj) : Led → (Addr × AObj → Led) → Led → Prop
  | head {r : Led} : Blk1 p (p :: r) (fun p' => p' :: r) r
  | tail {l r : Led} {f : Addr × AObj → Led} {a : Addr × AObj} : Blk1 p l f r → Blk1 p (a :: l) (fun p' => a :: f p') (a :: r)
theorem Blk1.perm {p : Addr × AObj} {l r : Led} {f : Addr × AObj → Led} (h : Blk1 p l f r) : (p :: r).Perm l ∧ ∀ p', (f p').Perm (p' :: r) := by
  induction h with
  | @head r => exact ⟨.refl _, fun T' => .refl _⟩
  | @tail l r f a _ ih =>
    obtain ⟨h1, h2⟩ := ih
    exact ⟨(List.Perm.swap _ _ _).trans (h1.cons a), fun T' => ((h2 T').cons a).trans (.swap _ _ _)⟩
local macro_rules | `(tactic| tb_start) => `(tactic| first | (with_reducible exact Blk.head) | (with_reducible exact Blk1.head) | ((with_reducible apply Blk.tail); tb_start) | ((with_reducible apply Blk1.tail); tb_start))
section
variable {Z : Amb} {A : Around} {l : Led} {X : Value → Shared → Prop}
theorem CL.blk {f : Value} {args : List AV} {T r : Led} {g : Led → Led} {Q : AV → Led → Prop} (hb : Blk T l g r) (h : CD Z A f args (T ++ r) (fun v l' => ∃ T', l' = T' ++ r ∧ Q v (g T')) X) : CL Z A f args l Q X := by
  obtain ⟨h1, h2⟩ := hb.perm
  refine CL.pull h1 (fun vs e s R hs hQ hX => h vs e s R hs (fun v s' l' hs' hq => ?_) hX)
  obtain ⟨T', rfl, hq⟩ := hq
  exact hQ _ _ _ hs' ⟨_, .ofPerm (h2 T'), hq⟩
theorem CL.blk1 {f : Value} {args : List AV} {p : Addr × AObj} {r : Led} {g : Addr × AObj → Led} {Q : AV → Led → Prop} (hb : Blk1 p l g r) (h : CD Z A f args (p :: r) (fun v l' => ∃ p', l' = p' :: r ∧ Q v (g p')) X) : CL Z A f args l Q X := by
  obtain ⟨h1, h2⟩ := hb.perm
  refine CL.pull h1 (fun vs e s R hs hQ hX => h vs e s R hs (fun v s' l' hs' hq => ?_) hX)
  obtain ⟨T', rfl, hq⟩ := hq
  exact hQ _ _ _ hs' ⟨_, .ofPerm (h2 T'), hq⟩
end
structure RowA where
  q : Addr
  w : Addr
  kind : Str
  way : List Nat
noncomputable def rowLed (r : RowA) : Led := [(r.q, .list [.str r.kind, .ref r.w]), (r.w, .list (inl r.way))]
noncomputable def kvs (qs : List RowA) : List (Int × AV) := qs.mapIdx fun i r => ((i : Int), AV.ref r.q)
noncomputable abbrev qsLed (qs : List RowA) : Led := qs.flatMap rowLed
theorem kvs_snoc (qs : List RowA) (r : RowA) : kvs (qs ++ [r]) = kvs qs ++ [((qs.length : Int), .ref r.q)] := by
  unfold kvs; rw [List.mapIdx_append]; simp
theorem kvs_len (qs : List RowA) : (kvs qs).length = qs.length := by unfold kvs; simp
theorem kvs_keys (qs : List RowA) : (kvs qs).map (·.1) = nl (List.range qs.length) := by
  unfold kvs nl
  apply List.ext_getElem?
  intro i
  simp only [List.getElem?_map, List.getElem?_mapIdx, List.getElem?_range]
  by_cases h : i < qs.length
  · simp [h]
  · simp [h]
theorem kvAt_app {a b : List (Int × AV)} {k : Int} : kvAt (a ++ b) k = (kvAt a k).or (kvAt b k) := by
  unfold kvAt
  rw [List.find?_append]
  cases a.find? _ <;> simp
theorem kvAt_kvs {qs : List RowA} {i : Nat} {r : RowA} (h : qs[i]? = some r) : kvAt (kvs qs) i = some (.ref r.q) := by
  unfold kvAt
  have hlen := (List.getElem?_eq_some_iff.mp h).1
  have e : (kvs qs).find? (fun p => decide (p.1 = (i : Int))) = some ((i : Int), .ref r.q) := by
    rw [List.find?_eq_some_iff_getElem]
    refine ⟨by simp, i, by rw [kvs_len]; exact hlen, ?_, ?_⟩
    · unfold kvs
      rw [List.getElem_mapIdx]
      rw [(List.getElem?_eq_some_iff.mp h).2]
    · intro j hj
      unfold kvs
      rw [List.getElem_mapIdx]
      simp
      omega
  rw [e]; rfl
theorem row_in {qs : List RowA} {i : Nat} {r : RowA} {l : Led} (hq : In (qsLed qs) l) (h : qs[i]? = some r) : (r.q, .list [.str r.kind, .ref r.w]) ∈ l ∧ (r.w, .list (inl r.way)) ∈ l := by
  have hm := List.mem_of_getElem? h
  exact ⟨hq _ (List.mem_flatMap.mpr ⟨r, hm, .head _⟩), hq _ (List.mem_flatMap.mpr ⟨r, hm, .tail _ (.head _)⟩)⟩
theorem row_in1 {qs : List RowA} {i : Nat} {r : RowA} {l : Led} (hq : In (qsLed qs) l) (h : qs[i]? = some r) : (r.q, .list [.str r.kind, .ref r.w]) ∈ l := (row_in hq h).1
theorem row_in2 {qs : List RowA} {i : Nat} {r : RowA} {l : Led} (hq : In (qsLed qs) l) (h : qs[i]? = some r) : (r.w, .list (inl r.way)) ∈ l := (row_in hq h).2
noncomputable def isAt (k : Str) : Bool := k == "attribute"
noncomputable def isNs (k : Str) : Bool := k == "namespace"
theorem beside_eq (k : Str) : beside k = (isAt k || isNs k) := by
  unfold beside strIn isAt isNs
  simp only [List.any_cons, List.any_nil, Bool.or_false]
  rw [show (("attribute" : Str) == k) = (k == "attribute") from by rw [Bool.eq_iff_iff, beq_iff_eq, beq_iff_eq]; exact eq_comm,
      show (("namespace" : Str) == k) = (k == "namespace") from by rw [Bool.eq_iff_iff, beq_iff_eq, beq_iff_eq]; exact eq_comm]
noncomputable def TreeA.under (t : TreeA) (c : Str → Bool) (i : Nat) : List Nat := (List.range t.rows.length).filter fun k => t.pars k == some i && c (t.kinds k)
noncomputable def sixKinds : List Str := ["root", "element", "text", "comment", "instruction", "attribute", "namespace"]
noncomputable def atName (j : Nat) : Str := "k" ++ (toString (j : Int) : Str)
noncomputable def nsName (j : Nat) : Str := "p" ++ (toString (j : Int) : Str)
structure Wf (t : TreeA) : Prop where
  size : t.rows.length ≤ 20
  lt : ∀ (i : Nat) (nd : NodeA), t.rows[i]? = some nd → ∀ p, nd.par = some p → p < i
  kid : ∀ (i : Nat) (nd : NodeA), t.rows[i]? = some nd → ∀ p, nd.par = some p → beside nd.kind = false → t.kinds p = "root" ∨ t.kinds p = "element"
  own : ∀ (i : Nat) (nd : NodeA), t.rows[i]? = some nd → ∀ p, nd.par = some p → beside nd.kind = true → t.kinds p = "element"
  six : ∀ (i : Nat) (nd : NodeA), t.rows[i]? = some nd → nd.kind ∈ sixKinds
  root : ∀ (i : Nat) (nd : NodeA), t.rows[i]? = some nd → nd.kind = "root" → nd.par = none
  ch : ∀ (i : Nat) (nd : NodeA), t.rows[i]? = some nd → nd.ch = t.under (fun k => !beside k) i
  at' : ∀ (i : Nat) (nd : NodeA), t.rows[i]? = some nd → nd.at' = t.under isAt i
  ns : ∀ (i : Nat) (nd : NodeA), t.rows[i]? = some nd → nd.ns = t.under isNs i
  nsn : ∀ (i : Nat) (nd : NodeA), t.rows[i]? = some nd → nd.kind = "namespace" → 2 ≤ i ∧ nd.name = nsName (i - 2) ∧ nd.val = "u"
  atn : ∀ (i : Nat) (nd : NodeA), t.rows[i]? = some nd → nd.kind = "attribute" → 2 ≤ i ∧ nd.loc = atName (i - 2)
theorem under_lt {t : TreeA} {c : Str → Bool} {i k : Nat} (h : k ∈ t.under c i) : k < t.rows.length := List.mem_range.mp (List.mem_filter.mp h).1
theorem under_len {t : TreeA} {c : Str → Bool} {i : Nat} : (t.under c i).length ≤ t.rows.length := by
  refine Nat.le_trans (List.length_filter_le _ _) ?_
  rw [List.length_range]; exact Nat.le_refl _
theorem mem_under {t : TreeA} {c : Str → Bool} {i k : Nat} : k ∈ t.under c i ↔ k < t.rows.length ∧ t.pars k = some i ∧ c (t.kinds k) = true := by
  unfold TreeA.under
  rw [List.mem_filter, List.mem_range, Bool.and_eq_true, beq_iff_eq]
theorem Wf.good {t : TreeA} (W : Wf t) : t.Good where
  size := Nat.le_trans W.size (by decide)
  chl := fun n hn => by
    obtain ⟨i, hi⟩ := List.getElem?_of_mem hn
    rw [W.ch i n hi]; exact Nat.le_trans under_len (Nat.le_trans W.size (by decide))
  atl := fun n hn => by
    obtain ⟨i, hi⟩ := List.getElem?_of_mem hn
    rw [W.at' i n hi]; exact Nat.le_trans under_len (Nat.le_trans W.size (by decide))
  nsl := fun n hn => by
    obtain ⟨i, hi⟩ := List.getElem?_of_mem hn
    rw [W.ns i n hi]; exact Nat.le_trans under_len (Nat.le_trans W.size (by decide))
  chi := fun n hn k hk => by
    obtain ⟨i, hi⟩ := List.getElem?_of_mem hn
    rw [W.ch i n hi] at hk; exact under_lt hk
  ati := fun n hn k hk => by
    obtain ⟨i, hi⟩ := List.getElem?_of_mem hn
    rw [W.at' i n hi] at hk; exact under_lt hk
  nsi := fun n hn k hk => by
    obtain ⟨i, hi⟩ := List.getElem?_of_mem hn
    rw [W.ns i n hi] at hk; exact under_lt hk
  pri := fun n hn k hk => by
    obtain ⟨i, hi⟩ := List.getElem?_of_mem hn
    have h1 := W.lt i n hi k hk
    have h2 := (List.getElem?_eq_some_iff.mp hi).1
    omega
  mem := fun i nd hi p hp hb => by
    have h1 := W.lt i nd hi p hp
    have h2 := (List.getElem?_eq_some_iff.mp hi).1
    refine (fun pn hpn => ?_ : ∀ pn, t.rows[p]? = some pn → _) _ (List.getElem?_eq_getElem (by omega))
    rw [chs_of hpn, W.ch p pn hpn]
    refine mem_under.mpr ⟨h2, by rw [pars_of hi, hp], ?_⟩
    rw [kinds_of hi, hb]; rfl
noncomputable def NodeA.tell (q : NodeA) (k : Str) (n : Nat) : NodeA := if k = "attribute" then q.addAt n else if k = "namespace" then q.addNs n else q.addCh n
noncomputable def TreeA.grow (t : TreeA) (nd : NodeA) : TreeA := match nd.par with
  | none => t.add nd
  | some p => (t.add nd).mod p (·.tell nd.kind t.rows.length)
theorem tell_same (q : NodeA) (k : Str) (n : Nat) : (q.tell k n).kind = q.kind ∧ (q.tell k n).par = q.par ∧ (q.tell k n).name = q.name ∧ (q.tell k n).val = q.val ∧ (q.tell k n).loc = q.loc := by
  unfold NodeA.tell
  split
  · exact ⟨rfl, rfl, rfl, rfl, rfl⟩
  · split <;> exact ⟨rfl, rfl, rfl, rfl, rfl⟩
theorem grow_get {t : TreeA} {nd : NodeA} (hp : ∀ p, nd.par = some p → p < t.rows.length) {i : Nat} :
    (t.grow nd).rows[i]? = if i = t.rows.length then some nd else (t.rows[i]?).map fun q => if nd.par = some i then q.tell nd.kind t.rows.length else q := by
  unfold TreeA.grow
  cases h : nd.par with
  | none =>
    simp only [TreeA.add]
    rw [List.getElem?_append]
    by_cases hi : i < t.rows.length
    · rw [if_pos hi, if_neg (by omega)]
      simp
    · rw [if_neg hi]
      by_cases he : i = t.rows.length
      · subst he; simp
      · rw [if_neg he, List.getElem?_eq_none (by first | exact len_map_le (len_map_le (by omega)) | exact len_map_le (by omega) | (simp; omega)), List.getElem?_eq_none (by omega)]
        rfl
  | some p =>
    have hpl := hp p h
    simp only [TreeA.add, TreeA.mod]
    rw [List.getElem?_modify, List.getElem?_append]
    by_cases hi : i < t.rows.length
    · rw [if_pos hi, if_neg (by omega)]
      by_cases e : p = i
      · subst e; simp
      · have : ¬ (some p = some i) := fun q => e (Option.some.inj q)
        simp [e]
    · rw [if_neg hi]
      have e : ¬ p = i := by omega
      by_cases he : i = t.rows.length
      · subst he; simp [e]
      · rw [if_neg he, List.getElem?_eq_none (by first | exact len_map_le (len_map_le (by omega)) | exact len_map_le (by omega) | (simp; omega)), List.getElem?_eq_none (by omega)]
        rfl
theorem grow_len {t : TreeA} {nd : NodeA} : (t.grow nd).rows.length = t.rows.length + 1 := by
  unfold TreeA.grow
  split
  · simp [TreeA.add]
  · simp [TreeA.add, TreeA.mod]
theorem grow_kinds {t : TreeA} {nd : NodeA} (hp : ∀ p, nd.par = some p → p < t.rows.length) {i : Nat} : (t.grow nd).kinds i = if i = t.rows.length then nd.kind else t.kinds i := by
  unfold TreeA.kinds
  rw [grow_get hp]
  by_cases h : i = t.rows.length
  · rw [if_pos h, if_pos h]; rfl
  · rw [if_neg h, if_neg h, Option.map_map]
    congr 2
    funext q
    show (if nd.par = some i then q.tell nd.kind t.rows.length else q).kind = q.kind
    split
    · exact (tell_same _ _ _).1
    · rfl
theorem grow_pars {t : TreeA} {nd : NodeA} (hp : ∀ p, nd.par = some p → p < t.rows.length) {i : Nat} : (t.grow nd).pars i = if i = t.rows.length then nd.par else t.pars i := by
  unfold TreeA.pars
  rw [grow_get hp]
  by_cases h : i = t.rows.length
  · rw [if_pos h, if_pos h]; rfl
  · rw [if_neg h, if_neg h, Option.map_map]
    congr 2
    funext q
    show (if nd.par = some i then q.tell nd.kind t.rows.length else q).par = q.par
    split
    · exact (tell_same _ _ _).2.1
    · rfl
theorem grow_under {t : TreeA} {nd : NodeA} (hp : ∀ p, nd.par = some p → p < t.rows.length) {c : Str → Bool} {i : Nat} : (t.grow nd).under c i = t.under c i ++ if nd.par = some i ∧ c nd.kind = true then [t.rows.length] else [] := by
  unfold TreeA.under
  rw [grow_len, List.range_succ, List.filter_append]
  congr 1
  · apply List.filter_congr
    intro k hk
    have := List.mem_range.mp hk
    rw [grow_pars hp, grow_kinds hp, if_neg (by omega), if_neg (by omega)]
  · rw [List.filter_cons, grow_pars hp, grow_kinds hp, if_pos rfl, if_pos rfl, List.filter_nil]
    by_cases h1 : nd.par = some i
    · by_cases h2 : c nd.kind = true <;> simp [h1, h2]
    · simp [h1]
theorem Wf.grow {t : TreeA} (W : Wf t) {nd : NodeA} (hz : t.rows.length < 20) (h0 : nd.ch = [] ∧ nd.at' = [] ∧ nd.ns = []) (hp : ∀ p, nd.par = some p → p < t.rows.length)
    (hk : ∀ p, nd.par = some p → beside nd.kind = false → t.kinds p = "root" ∨ t.kinds p = "element") (ho : ∀ p, nd.par = some p → beside nd.kind = true → t.kinds p = "element")
    (h6 : nd.kind ∈ sixKinds) (hr : nd.kind = "root" → nd.par = none) (hn : nd.kind = "namespace" → 2 ≤ t.rows.length ∧ nd.name = nsName (t.rows.length - 2) ∧ nd.val = "u") (ha : nd.kind = "attribute" → 2 ≤ t.rows.length ∧ nd.loc = atName (t.rows.length - 2)) : Wf (t.grow nd) := by
  have get : ∀ (i : Nat) (q : NodeA), (t.grow nd).rows[i]? = some q → (i = t.rows.length ∧ q = nd) ∨ (i < t.rows.length ∧ ∃ q0, t.rows[i]? = some q0 ∧ q = if nd.par = some i then q0.tell nd.kind t.rows.length else q0) := by
    intro i q h
    rw [grow_get hp] at h
    by_cases e : i = t.rows.length
    · rw [if_pos e] at h
      exact .inl ⟨e, (Option.some.inj h).symm⟩
    · rw [if_neg e] at h
      obtain ⟨q0, h1, h2⟩ := Option.map_eq_some_iff.mp h
      exact .inr ⟨(List.getElem?_eq_some_iff.mp h1).1, q0, h1, h2.symm⟩
  have same : ∀ (i : Nat) (q0 : NodeA), let q := (if nd.par = some i then q0.tell nd.kind t.rows.length else q0); q.kind = q0.kind ∧ q.par = q0.par ∧ q.name = q0.name ∧ q.val = q0.val ∧ q.loc = q0.loc := by
    intro i q0
    dsimp only
    split
    · exact tell_same _ _ _
    · exact ⟨rfl, rfl, rfl, rfl, rfl⟩
  have kk : ∀ p, p < t.rows.length → (t.grow nd).kinds p = t.kinds p := fun p h => by rw [grow_kinds hp, if_neg (by omega)]
  have lt' : ∀ (i : Nat) (q : NodeA), (t.grow nd).rows[i]? = some q → ∀ p, q.par = some p → p < i := by
    intro i q h p e
    rcases get i q h with ⟨rfl, rfl⟩ | ⟨hi, q0, h1, rfl⟩
    · exact hp p e
    · rw [(same i q0).2.1] at e
      exact W.lt i q0 h1 p e
  have nob : ∀ i, nd.par ≠ some i ∨ i < t.rows.length := fun i => by
    by_cases h : nd.par = some i
    · exact .inr (hp i h)
    · exact .inl h
  have empt : ∀ c, t.under c t.rows.length = [] := by
    intro c
    rw [List.eq_nil_iff_forall_not_mem]
    intro k hk
    obtain ⟨h1, h2, _⟩ := mem_under.mp hk
    refine (fun kn hkn => ?_ : ∀ kn, t.rows[k]? = some kn → _) _ (List.getElem?_eq_getElem h1)
    rw [pars_of hkn] at h2
    have := W.lt k kn hkn _ h2
    omega
  have nolast : ∀ c : Str → Bool, (if nd.par = some t.rows.length ∧ c nd.kind = true then [t.rows.length] else []) = ([] : List Nat) := fun c => by
    rw [if_neg]
    rintro ⟨h, _⟩
    exact absurd (hp _ h) (by omega)
  refine ⟨by rw [grow_len]; omega, lt', ?_, ?_, ?_, ?_, ?_, ?_, ?_, ?_, ?_⟩
  · intro i q h p e hb
    have hpi := lt' i q h p e
    rcases get i q h with ⟨rfl, rfl⟩ | ⟨hi, q0, h1, rfl⟩
    · rw [kk p hpi]; exact hk p e hb
    · rw [(same i q0).1] at hb
      rw [(same i q0).2.1] at e
      rw [kk p (by omega)]
      exact W.kid i q0 h1 p e hb
  · intro i q h p e hb
    have hpi := lt' i q h p e
    rcases get i q h with ⟨rfl, rfl⟩ | ⟨hi, q0, h1, rfl⟩
    · rw [kk p hpi]; exact ho p e hb
    · rw [(same i q0).1] at hb
      rw [(same i q0).2.1] at e
      rw [kk p (by omega)]
      exact W.own i q0 h1 p e hb
  · intro i q h
    rcases get i q h with ⟨rfl, rfl⟩ | ⟨hi, q0, h1, rfl⟩
    · exact h6
    · rw [(same i q0).1]; exact W.six i q0 h1
  · intro i q h e
    rcases get i q h with ⟨rfl, rfl⟩ | ⟨hi, q0, h1, rfl⟩
    · exact hr e
    · rw [(same i q0).1] at e
      rw [(same i q0).2.1]; exact W.root i q0 h1 e
  · intro i q h
    rw [grow_under hp]
    rcases get i q h with ⟨rfl, rfl⟩ | ⟨hi, q0, h1, rfl⟩
    · have nl' := nolast (fun k => !beside k)
      rw [h0.1, empt, nl']; rfl
    · have hc := W.ch i q0 h1
      by_cases e : nd.par = some i
      · rw [if_pos e]
        unfold NodeA.tell
        by_cases e1 : nd.kind = "attribute"
        · rw [if_pos e1, if_neg (by rw [e1]; rintro ⟨_, h⟩; revert h; decide), List.append_nil]; exact hc
        · rw [if_neg e1]
          by_cases e2 : nd.kind = "namespace"
          · rw [if_pos e2, if_neg (by rw [e2]; rintro ⟨_, h⟩; revert h; decide), List.append_nil]; exact hc
          · have e3 : beside nd.kind = false := by
              rw [beside_eq]; unfold isAt isNs
              simp [e1, e2]
            rw [if_neg e2, if_pos ⟨e, by rw [e3]; rfl⟩]
            show q0.ch ++ _ = _; rw [hc]
      · rw [if_neg e, if_neg (fun h => e h.1), List.append_nil]; exact hc
  · intro i q h
    rw [grow_under hp]
    rcases get i q h with ⟨rfl, rfl⟩ | ⟨hi, q0, h1, rfl⟩
    · rw [h0.2.1, empt, nolast]; rfl
    · have hc := W.at' i q0 h1
      by_cases e : nd.par = some i
      · rw [if_pos e]
        unfold NodeA.tell
        by_cases e1 : nd.kind = "attribute"
        · rw [if_pos e1, if_pos ⟨e, by rw [e1]; decide⟩]; show q0.at' ++ _ = _; rw [hc]
        · have e3 : ¬ (nd.par = some i ∧ isAt nd.kind = true) := fun h => e1 (eq_of_beq h.2)
          rw [if_neg e1, if_neg e3, List.append_nil]
          split <;> exact hc
      · rw [if_neg e, if_neg (fun h => e h.1), List.append_nil]; exact hc
  · intro i q h
    rw [grow_under hp]
    rcases get i q h with ⟨rfl, rfl⟩ | ⟨hi, q0, h1, rfl⟩
    · rw [h0.2.2, empt, nolast]; rfl
    · have hc := W.ns i q0 h1
      by_cases e : nd.par = some i
      · rw [if_pos e]
        unfold NodeA.tell
        by_cases e1 : nd.kind = "attribute"
        · rw [if_pos e1, if_neg (by rw [e1]; rintro ⟨_, h⟩; revert h; decide), List.append_nil]; exact hc
        · rw [if_neg e1]
          by_cases e2 : nd.kind = "namespace"
          · rw [if_pos e2, if_pos ⟨e, by rw [e2]; decide⟩]; show q0.ns ++ _ = _; rw [hc]
          · rw [if_neg e2, if_neg (by rintro ⟨_, h⟩; exact e2 (eq_of_beq h)), List.append_nil]; exact hc
      · rw [if_neg e, if_neg (fun h => e h.1), List.append_nil]; exact hc
  · intro i q h e
    rcases get i q h with ⟨rfl, rfl⟩ | ⟨hi, q0, h1, rfl⟩
    · exact hn e
    · rw [(same i q0).1] at e
      rw [(same i q0).2.2.1, (same i q0).2.2.2.1]; exact W.nsn i q0 h1 e
  · intro i q h e
    rcases get i q h with ⟨rfl, rfl⟩ | ⟨hi, q0, h1, rfl⟩
    · exact ha e
    · rw [(same i q0).1] at e
      rw [(same i q0).2.2.2.2]; exact W.atn i q0 h1 e
theorem Chain.congr {f g : Nat → Option Nat} {n : Nat} (h : ∀ k, k < n → g k = f k) (hf : ∀ k, k < n → ∀ p, f k = some p → p < n) {o : Option Nat} {as : List Nat} (hC : Chain f o as) (ho : ∀ k, o = some k → k < n) : Chain g o as := by
  induction hC with
  | nil => exact .nil
  | @cons p as _ ih =>
    have hp := ho p rfl
    have := ih (fun k e => hf p hp k e)
    rw [← h p hp] at this
    exact .cons this
theorem Wf.pars_lt {t : TreeA} (W : Wf t) {i p : Nat} (h : t.pars i = some p) : p < i ∧ i < t.rows.length := by
  unfold TreeA.pars at h
  cases e : t.rows[i]? with
  | none => rw [e] at h; simp at h
  | some nd => rw [e] at h; exact ⟨W.lt i nd e p h, (List.getElem?_eq_some_iff.mp e).1⟩
theorem Chain.len {f : Nat → Option Nat} (hf : ∀ k p, f k = some p → p < k) {o : Option Nat} {as : List Nat} (hC : Chain f o as) {m : Nat} (ho : ∀ k, o = some k → k < m) : as.length ≤ m := by
  induction hC generalizing m with
  | nil => exact Nat.zero_le _
  | @cons p as _ ih =>
    have hp := ho p rfl
    have := ih (m := p) (fun k e => hf p k e)
    simp only [List.length_cons]
    omega
theorem Chain.func {f : Nat → Option Nat} {o : Option Nat} {as bs : List Nat} (h : Chain f o as) (h2 : Chain f o bs) : as = bs := by
  induction h generalizing bs with
  | nil => cases h2; rfl
  | cons _ ih => cases h2 with | cons h2 => rw [ih h2]
theorem Chain.exists {f : Nat → Option Nat} (hf : ∀ k p, f k = some p → p < k) : ∀ (m : Nat) (o : Option Nat), (∀ k, o = some k → k < m) → ∃ as, Chain f o as
  | _, none, _ => ⟨[], .nil⟩
  | 0, some k, h => absurd (h k rfl) (Nat.not_lt_zero _)
  | m + 1, some k, h => by
    obtain ⟨as, ha⟩ := Chain.exists hf m (f k) (fun j e => Nat.lt_of_lt_of_le (hf k j e) (Nat.le_of_lt_succ (h k rfl)))
    exact ⟨k :: as, .cons ha⟩
noncomputable def WayIs (t : TreeA) (i : Nat) (w : List Nat) : Prop := ∃ as, Chain t.pars (t.pars i) as ∧ w = as.reverse ++ [i]
structure RowsOK (t : TreeA) (qs : List RowA) : Prop where
  len : qs.length = t.rows.length
  row : ∀ (i : Nat) (r : RowA), qs[i]? = some r → r.kind = t.kinds i ∧ WayIs t i r.way
theorem WayIs.len {t : TreeA} (W : Wf t) {i : Nat} {w : List Nat} (h : WayIs t i w) : w.length ≤ i + 1 := by
  obtain ⟨as, hC, rfl⟩ := h
  have := hC.len (fun k p e => (W.pars_lt e).1) (m := i) (fun k e => (W.pars_lt e).1)
  simp only [List.length_append, List.length_reverse, List.length_singleton]
  omega
theorem RowsOK.grow {t : TreeA} {qs : List RowA} (W : Wf t) (R : RowsOK t qs) {nd : NodeA} {r : RowA} {pw : List Nat} (hp : ∀ p, nd.par = some p → p < t.rows.length) (hk : r.kind = nd.kind) (hw : r.way = pw ++ [t.rows.length])
    (h0 : nd.par = none → pw = []) (h1 : ∀ p, nd.par = some p → WayIs t p pw) : RowsOK (t.grow nd) (qs ++ [r]) := by
  have hcongr : ∀ {o as}, Chain t.pars o as → (∀ k, o = some k → k < t.rows.length) → Chain (t.grow nd).pars o as := fun hC ho =>
    hC.congr (n := t.rows.length) (fun k hk => by rw [grow_pars hp, if_neg (by omega)]) (fun k hk p e => by have := (W.pars_lt e).1; omega) ho
  refine ⟨by rw [grow_len]; simp [R.len], fun i r' h => ?_⟩
  rw [List.getElem?_append] at h
  by_cases hi : i < qs.length
  · rw [if_pos hi] at h
    have hi' : i < t.rows.length := R.len ▸ hi
    obtain ⟨k1, as, hC, e⟩ := R.row i r' h
    refine ⟨by rw [grow_kinds hp, if_neg (by omega)]; exact k1, as, ?_, e⟩
    rw [grow_pars hp, if_neg (by omega)]
    exact hcongr hC fun k e => by have := (W.pars_lt e); omega
  · rw [if_neg hi] at h
    have hlen : i = qs.length := by
      have := (List.getElem?_eq_some_iff.mp h).1
      simp at this; omega
    subst hlen
    rw [Nat.sub_self] at h
    obtain rfl : r = r' := by simpa using h
    rw [R.len]
    refine ⟨by rw [grow_kinds hp, if_pos rfl]; exact hk, ?_⟩
    unfold WayIs
    rw [grow_pars hp, if_pos rfl]
    cases hpar : nd.par with
    | none =>
      rw [h0 hpar] at hw
      exact ⟨[], .nil, by rw [hw]; rfl⟩
    | some p =>
      obtain ⟨as, hC, e⟩ := h1 p hpar
      have hpl := hp p hpar
      refine ⟨p :: as, ?_, by rw [hw, e]; simp⟩
      refine .cons ?_
      rw [grow_pars hp, if_neg (by omega)]
      exact hcongr hC fun k e => by have := (W.pars_lt e); omega
noncomputable abbrev frG (so x d inn : Addr) (tv pv wv ov pa nv kv : Option AV) : List (Str × Option AV) := [("source", some (.ref so)), ("many", some (.int 8)), ("tree", some (.ref x)), ("top", some (.int 0)), ("first", some (.int 1)), ("rows", some (.ref d)), ("inner", some (.ref inn)), ("turn", tv), ("parent", pv), ("way", wv), ("owner", ov), ("path", pa), ("node", nv), ("kind", kv)]
noncomputable abbrev namesG : List (Str × NameKind) := [("source", .local), ("many", .local), ("tree", .local), ("top", .local), ("first", .local), ("rows", .local), ("inner", .local), ("turn", .local), ("parent", .local), ("way", .local), ("owner", .local), ("path", .local), ("node", .local), ("kind", .local), ("Tree", .globalImplicit), ("range", .globalImplicit), ("_law_take", .globalImplicit), ("_law_one", .globalImplicit), ("str", .globalImplicit)]
structure GF (t : TreeA) (qs : List RowA) (inner : List Nat) (j : Nat) : Prop where
  wf : Wf t
  rows : RowsOK t qs
  len : t.rows.length = 2 + j
  inn : ∀ k ∈ inner, k < t.rows.length ∧ (t.kinds k = "root" ∨ t.kinds k = "element")
  rest : inner.drop 1 ≠ []
  el : ∀ k ∈ inner.drop 1, t.kinds k = "element"
  il : inner.length ≤ 2 + j
theorem turn_mono {Inv J : Nat → Led → Prop} {n : Nat} {Q : AFlow → Led → Prop} (hJ : ∀ m l, Inv m l → J m l) {f : AFlow} {l : Led} (h : Turn Inv n Q f l) : Turn J n Q f l := by
  cases f with
  | next => obtain ⟨m, l', h1, h2, h3⟩ := h; exact ⟨m, l', h1, h2, hJ _ _ h3⟩
  | cont => obtain ⟨m, l', h1, h2, h3⟩ := h; exact ⟨m, l', h1, h2, hJ _ _ h3⟩
  | brk => exact h
  | ret v => exact h
noncomputable def GInv {Z : Amb} (P : PX Z) (it so inn d L x : Addr) (total : Nat) (l : Led) (n : Nat) (l3 : Led) : Prop := ∃ (j : Nat) (a b : Int) (t : TreeA) (qs : List RowA) (ep : Nat) (inner : List Nat) (tv pv wv ov pa nv kv : Option AV), j + n = total ∧ t.x = x ∧ 0 ≤ b ∧ b < M31 ∧ GF t qs inner j ∧
  l3 = (it, .riter j n) :: (so, .list [.int a, .int b]) :: (inn, .list (inl inner)) :: (d, .dictI (kvs qs) ep) :: (L, .frame (frG so x d inn tv pv wv ov pa nv kv)) :: (treeLed P t ++ (qsLed qs ++ l))
section
variable {Z : Amb} {A : Around} {l : Led} {X : Value → Shared → Prop}
theorem ST.sub {f : Value → Sem Unit} {a : AV} {l l2 : Led} {Q : Led → Prop} (hs : Sb l2 l) (h : ST Z A f a l2 Q X) : ST Z A f a l Q X := fun v e => TR.subperm (h v e) hs
theorem CL.post {f : Value} {args : List AV} {l : Led} {Q Q' : AV → Led → Prop} (h : CL Z A f args l Q' X) (hq : ∀ v l', Q' v l' → ∃ l3, Sb l3 l' ∧ Q v l3) : CL Z A f args l Q X := by
  intro vs e s R hs hQ
  refine h vs e s R hs fun v s' l' h1 h2 => ?_
  obtain ⟨l3, h3, h4⟩ := hq _ _ h2
  exact hQ _ _ _ (h1.subperm h3) h4
theorem Sb.app {T a b : Led} (h : Sb a b) : Sb (T ++ a) (T ++ b) := by
  obtain ⟨m, h1, h2⟩ := h
  exact ⟨T ++ m, h1.append_left _, h2.append_left _⟩
theorem grown_tail (P : PX Z) {env : Env} {it so inn d L x pa : Addr} {total j n N : Nat} {a b : Int} {t : TreeA} {qs : List RowA} {ep : Nat} {inner pw : List Nat} {k : Str} {tv pv wv ov : Option AV} {M : Led} {Q : AFlow → Led → Prop}
    (hE : EnvIs env L namesG []) (hj : j + 1 + n = total) (hx : t.x = x) (hb0 : 0 ≤ b) (hb : b < M31) (hpa : (pa, .list (inl pw)) ∈ M) (hM : Sb (qsLed qs ++ l) M) (hN : N = qs.length) (hz : qs.length ≤ 50) (hpw : pw.length ≤ 50)
    (hG : ∀ q w, GF t (qs ++ [⟨q, w, k, pw ++ [N]⟩]) inner (j + 1)) {hh : Room A 3} :
    SV Z A env ((match (fdB (stAt 26)).getD 4 (.Pass default) with | .For _ _ b _ _ => b | _ => []).drop 3) ((it, .riter ((j : Int) + 1) n) :: (so, .list [.int a, .int b]) :: (inn, .list (inl inner)) :: (d, .dictI (kvs qs) ep) :: (L, .frame (frG so x d inn tv pv wv ov (some (.ref pa)) (some (.int N)) (some (.str k)))) :: (treeLed P t ++ M)) (Turn (GInv P it so inn d L x total l) (n + 1) Q) noX := by
  have hpa' : (pa, .list (inl pw)) ∈ treeLed P t ++ M := List.mem_append_right _ hpa
  refine s_cons ?_
  refine s_setitem ?_
  refine r_list ?_
  refine a_cons ?_
  tlg_ne
  refine a_cons ?_
  refine r_binop ?_
  tlg_ne
  refine r_list ?_
  refine a_cons ?_
  tlg_ne
  refine a_nil ?_
  refine ⟨by simp, fun x1 => ?_⟩
  refine o_addl (xs := inl pw) (ys := inl [N]) (by lcg_sub) (.head _) (by first | exact len_map_le (len_map_le (by omega)) | exact len_map_le (by omega) | (simp only [List.length_map]; omega)) (by simp) fun x2 => ?_
  rw [← inl_app]
  refine a_nil ?_
  refine ⟨by simp, fun x3 => ?_⟩
  tlg_ne
  tlg_ne
  refine si_dictNew (by lcg_sub) ?_ (by rw [kvs_len]; omega) fun ep' => ⟨_, by krn_off, ?_⟩
  · rw [kvs_keys, hN]
    simp
    intro i hi
    omega
  refine t_nil ?_
  refine ⟨n, _, by omega, ?_, j + 1, a, b, t, qs ++ [⟨x3, x2, k, pw ++ [N]⟩], ep', inner, tv, pv, wv, ov, some (.ref pa), some (.int N), some (.str k), hj, hx, hb0, hb, hG x3 x2, rfl⟩
  rw [kvs_snoc]
  subst hN
  refine Sb.pick (by l_intsC) (Sb.pick (by l_intsC) (Sb.pick (by l_intsC) (Sb.pick (by l_intsC) (Sb.pick (by l_intsC) ?_))))
  have e1 : (treeLed P t ++ (qsLed (qs ++ [⟨x3, x2, k, pw ++ [qs.length]⟩]) ++ l)).Perm (rowLed ⟨x3, x2, k, pw ++ [qs.length]⟩ ++ (treeLed P t ++ (qsLed qs ++ l))) := by
    rw [qsLed, List.flatMap_append, List.flatMap_cons, List.flatMap_nil, List.append_nil, List.append_assoc]
    exact ((List.perm_append_comm_assoc _ _ _).append_left _).trans (List.perm_append_comm_assoc _ _ _)
  refine Sb.trans (.ofPerm e1) ?_
  unfold rowLed
  have e2 : Sb (treeLed P t ++ (qsLed qs ++ l)) (treeLed P t ++ M) := Sb.app hM
  exact .cons (.cons (.drop e2))
theorem pickA_from1 (xs : List AV) : pickA xs (some 1) none none = xs.drop 1 := pickA_from xs 1
theorem child_grow {t : TreeA} {nd : NodeA} (h1 : nd.kind ≠ "attribute") (h2 : nd.kind ≠ "namespace") : t.child nd = t.grow nd := by
  unfold TreeA.child TreeA.grow
  cases nd.par with
  | none => rfl
  | some p =>
    have : (fun q : NodeA => q.tell nd.kind t.rows.length) = (fun q : NodeA => q.addCh t.rows.length) := by
      funext q
      unfold NodeA.tell
      rw [if_neg h1, if_neg h2]
    show (t.add nd).mod p (·.addCh t.rows.length) = (t.add nd).mod p (fun q => q.tell nd.kind t.rows.length)
    rw [this]
theorem GF.grow {t : TreeA} {qs : List RowA} {inner : List Nat} {j : Nat} (G : GF t qs inner j) (hj : j < 10) {nd : NodeA} {q w : Addr} {pw : List Nat} (h0 : nd.ch = [] ∧ nd.at' = [] ∧ nd.ns = []) (hp : ∀ p, nd.par = some p → p < t.rows.length)
    (hk : ∀ p, nd.par = some p → beside nd.kind = false → t.kinds p = "root" ∨ t.kinds p = "element") (ho : ∀ p, nd.par = some p → beside nd.kind = true → t.kinds p = "element")
    (h6 : nd.kind ∈ sixKinds) (hr : nd.kind = "root" → nd.par = none) (hn : nd.kind = "namespace" → nd.name = nsName j ∧ nd.val = "u") (ha : nd.kind = "attribute" → nd.loc = atName j)
    (hw0 : nd.par = none → pw = []) (hw1 : ∀ p, nd.par = some p → WayIs t p pw) : GF (t.grow nd) (qs ++ [⟨q, w, nd.kind, pw ++ [t.rows.length]⟩]) inner (j + 1) := by
  have hl := G.len
  have e2 : t.rows.length - 2 = j := by omega
  refine ⟨G.wf.grow (by omega) h0 hp hk ho h6 hr (fun e => ⟨by omega, by rw [e2]; exact hn e⟩) (fun e => ⟨by omega, by rw [e2]; exact ha e⟩), G.rows.grow G.wf hp rfl rfl hw0 hw1, by rw [grow_len]; omega, ?_, G.rest, ?_, by have := G.il; omega⟩
  · intro k hk
    obtain ⟨h1, h2⟩ := G.inn k hk
    refine ⟨by rw [grow_len]; omega, ?_⟩
    rw [grow_kinds hp, if_neg (by omega)]
    exact h2
  · intro k hk
    have h1 := (G.inn k (List.mem_of_mem_drop hk)).1
    rw [grow_kinds hp, if_neg (by omega)]
    exact G.el k hk
theorem GF.kid {t : TreeA} {qs : List RowA} {inner : List Nat} {j : Nat} (G : GF t qs inner j) (hj : j < 10) {x d c a n q w : Addr} {kind name uri loc val : Str} {par : Option Nat} {pw : List Nat}
    (hk : beside kind = false ∧ kind ∈ sixKinds ∧ kind ≠ "root" ∧ kind ≠ "namespace" ∧ kind ≠ "attribute") (hp : ∀ p, par = some p → p < t.rows.length) (hpk : ∀ p, par = some p → t.kinds p = "root" ∨ t.kinds p = "element")
    (hw0 : par = none → pw = []) (hw1 : ∀ p, par = some p → WayIs t p pw) : GF (t.grow (newNode x d c a n kind name uri loc val par)) (qs ++ [⟨q, w, kind, pw ++ [t.rows.length]⟩]) inner (j + 1) :=
  G.grow (nd := newNode x d c a n kind name uri loc val par) hj ⟨rfl, rfl, rfl⟩ hp (fun p e _ => hpk p e) (fun p e h => absurd (hk.1.symm.trans h) (by decide)) hk.2.1 (fun h => absurd h hk.2.2.1) (fun h => absurd h hk.2.2.2.1) (fun h => absurd h hk.2.2.2.2) hw0 hw1
theorem GF.beside {t : TreeA} {qs : List RowA} {inner : List Nat} {j : Nat} (G : GF t qs inner j) (hj : j < 10) {x d c a n q w : Addr} {kind name uri loc val : Str} {o : Nat} {pw : List Nat}
    (hk : beside kind = true ∧ kind ∈ sixKinds ∧ kind ≠ "root") (hn : kind = "namespace" → name = nsName j ∧ val = "u") (ha : kind = "attribute" → loc = atName j) (hp : o < t.rows.length) (hpk : t.kinds o = "element")
    (hw1 : WayIs t o pw) : GF (t.grow (newNode x d c a n kind name uri loc val (some o))) (qs ++ [⟨q, w, kind, pw ++ [t.rows.length]⟩]) inner (j + 1) :=
  G.grow (nd := newNode x d c a n kind name uri loc val (some o)) hj ⟨rfl, rfl, rfl⟩ (fun p e => by cases e; exact hp) (fun p e h => absurd (hk.1.symm.trans h) (by decide)) (fun p e _ => by cases e; exact hpk) hk.2.1 (fun h => absurd h hk.2.2) hn ha (fun e => (by cases e)) (fun p e => by cases e; exact hw1)
theorem GF.more {t : TreeA} {qs : List RowA} {inner : List Nat} {j : Nat} (G : GF t qs inner (j + 1)) (hi : inner.length ≤ 2 + j) {k : Nat} (h : k < t.rows.length) (he : t.kinds k = "element") : GF t qs (inner ++ [k]) (j + 1) := by
  have hne : inner ≠ [] := fun e => G.rest (by rw [e]; rfl)
  have hpos : 1 ≤ inner.length := List.length_pos_iff.mpr hne
  have ed : (inner ++ [k]).drop 1 = inner.drop 1 ++ [k] := List.drop_append_of_le_length hpos
  refine ⟨G.wf, G.rows, G.len, ?_, by rw [ed]; simp, ?_, by rw [List.length_append]; simp; omega⟩
  · intro i hi
    rcases List.mem_append.mp hi with h1 | h1
    · exact G.inn i h1
    · obtain rfl := List.mem_singleton.mp h1
      exact ⟨h, .inr he⟩
  · intro i hi
    rw [ed] at hi
    rcases List.mem_append.mp hi with h1 | h1
    · exact G.el i h1
    · obtain rfl := List.mem_singleton.mp h1
      exact he
theorem log2_small {j : Nat} (h : j < 10) : j.log2 ≤ 10 := by
  have : ∀ j, j < 10 → j.log2 ≤ 10 := by decide
  exact this j h
theorem atName_len : ∀ j, j < 10 → (atName j).length ≤ 1000 ∧ (nsName j).length ≤ 1000 := by decide
theorem at_inj : ∀ i, i < 10 → ∀ j, j < 10 → (atName i = atName j → i = j) ∧ (nsName i = nsName j → i = j) := by decide
theorem strl {j : Nat} (h : j < 10) : (("k" : Str) ++ (toString (j : Int) : Str)).length ≤ sizeLine := Nat.le_trans (atName_len j h).1 (by decide)
theorem grow_at {t : TreeA} {x d c a n : Addr} {name uri loc val : Str} {o : Nat} : (t.add (newNode x d c a n "attribute" name uri loc val (some o))).mod o (·.addAt t.rows.length) = t.grow (newNode x d c a n "attribute" name uri loc val (some o)) := by
  have : (fun q : NodeA => q.tell "attribute" t.rows.length) = (fun q : NodeA => q.addAt t.rows.length) := by
    funext q
    unfold NodeA.tell
    rw [if_pos rfl]
  show _ = (t.add _).mod o (fun q => q.tell "attribute" t.rows.length)
  rw [this]
theorem grow_ns {t : TreeA} {x d c a n : Addr} {name uri loc val : Str} {o : Nat} : (t.add (newNode x d c a n "namespace" name uri loc val (some o))).mod o (·.addNs t.rows.length) = t.grow (newNode x d c a n "namespace" name uri loc val (some o)) := by
  have : (fun q : NodeA => q.tell "namespace" t.rows.length) = (fun q : NodeA => q.addNs t.rows.length) := by
    funext q
    unfold NodeA.tell
    rw [if_neg (by decide), if_pos rfl]
  show _ = (t.add _).mod o (fun q => q.tell "namespace" t.rows.length)
  rw [this]
theorem strlp {j : Nat} (h : j < 10) : (("p" : Str) ++ (toString (j : Int) : Str)).length ≤ sizeLine := Nat.le_trans (atName_len j h).2 (by decide)
theorem noAt {t : TreeA} (W : Wf t) {j own : Nat} {on : NodeA} (hlen : t.rows.length = 2 + j) (ho : t.rows[own]? = some on) (hj : j < 10) : ∀ k ∈ on.at', ∃ kn, t.rows[k]? = some kn ∧ kn.loc ≠ atName j := by
  intro k hk
  rw [W.at' own on ho] at hk
  obtain ⟨h1, h2, h3⟩ := mem_under.mp hk
  refine (fun kn hkn => ?_ : ∀ kn, t.rows[k]? = some kn → _) _ (List.getElem?_eq_getElem h1)
  rw [kinds_of hkn] at h3
  obtain ⟨h4, h5⟩ := W.atn k kn hkn (eq_of_beq h3)
  refine ⟨kn, hkn, fun e => ?_⟩
  have := (at_inj (k - 2) (by omega) j hj).1 (h5.symm.trans e)
  omega
theorem noNs {t : TreeA} (W : Wf t) {j own : Nat} {on : NodeA} (hlen : t.rows.length = 2 + j) (ho : t.rows[own]? = some on) (hj : j < 10) : ∀ k ∈ on.ns, ∃ kn, t.rows[k]? = some kn ∧ kn.name ≠ nsName j := by
  intro k hk
  rw [W.ns own on ho] at hk
  obtain ⟨h1, h2, h3⟩ := mem_under.mp hk
  refine (fun kn hkn => ?_ : ∀ kn, t.rows[k]? = some kn → _) _ (List.getElem?_eq_getElem h1)
  rw [kinds_of hkn] at h3
  obtain ⟨h4, h5, _⟩ := W.nsn k kn hkn (eq_of_beq h3)
  refine ⟨kn, hkn, fun e => ?_⟩
  have := (at_inj (k - 2) (by omega) j hj).2 (h5.symm.trans e)
  omega
set_option maxHeartbeats 4000000
theorem grown_half (P : PX Z) {env : Env} {it so inn d L x pa : Addr} {total j n wy own : Nat} {a b : Int} {t : TreeA} {qs : List RowA} {ep : Nat} {inner pw : List Nat} {par : Option Nat} {nv kv : Option AV} {M : Led} {Q : AFlow → Led → Prop}
    (hE : EnvIs env L namesG []) (hj : j + 1 + n = total) (ht : total ≤ 7) (hx : t.x = x) (hb0 : 0 ≤ b) (hb : b < M31) (hG : GF t qs inner j) (hr' : Room A 9) (hpa : (pa, .list (inl pw)) ∈ M) (hM : Sb (qsLed qs ++ l) M) (hin : In (qsLed qs) M)
    (hpl : pw.length ≤ 30) (hp0 : par = none → pw = []) (hp1 : ∀ p, par = some p → WayIs t p pw) (hpi : ∀ p, par = some p → p ∈ inner) (hown : own ∈ inner.drop 1) :
    SV Z A env ((match (fdB (stAt 26)).getD 4 (.Pass default) with | .For _ _ b _ _ => b | _ => []).drop 2) ((it, .riter ((j : Int) + 1) n) :: (so, .list [.int a, .int b]) :: (inn, .list (inl inner)) :: (d, .dictI (kvs qs) ep) :: (L, .frame (frG so x d inn (some (.int j)) (some (pav par)) (some (.int wy)) (some (.int own)) (some (.ref pa)) nv kv)) :: (treeLed P t ++ M)) (Turn (GInv P it so inn d L x total l) (n + 1) Q) noX := by
  have hG0 := hG
  obtain ⟨W, R, hlen, hinn, hrest, hel, hil⟩ := hG
  subst hx
  have hT : In (treeLed P t) (treeLed P t ++ M) := In.app
  have m1 := tree_in1 hT
  have m2 := tree_in2 hT
  have m3 := tree_in3 hT
  have hplt : ∀ p, par = some p → p < t.rows.length := fun p e => (hinn p (hpi p e)).1
  have hpk : ∀ p, par = some p → t.kinds p = "root" ∨ t.kinds p = "element" := fun p e => (hinn p (hpi p e)).2
  have hch : ∀ p, par = some p → ∃ nd, t.rows[p]? = some nd ∧ canHold nd ∧ nd.ch.length ≤ 50 := by
    intro p e
    refine (fun nd hnd => ?_ : ∀ nd, t.rows[p]? = some nd → _) _ (List.getElem?_eq_getElem (hplt p e))
    refine ⟨nd, hnd, ?_, W.good.chl _ (List.mem_of_getElem? hnd)⟩
    have := hpk p e
    rw [kinds_of hnd] at this
    exact this
  have hz : t.rows.length ≤ 50 := by omega
  have hNq : t.rows.length = qs.length := R.len.symm
  have hon := hinn own (List.mem_of_mem_drop hown)
  have hok := hel own hown
  refine (fun on hon' => ?_ : ∀ on, t.rows[own]? = some on → _) _ (List.getElem?_eq_getElem hon.1)
  rw [kinds_of hon'] at hok
  refine (fun orow hor => ?_ : ∀ r, qs[own]? = some r → _) _ (List.getElem?_eq_getElem (by rw [R.len]; exact hon.1))
  obtain ⟨ok1, ok2⟩ := R.row own orow hor
  have owl := ok2.len W
  refine s_cons ?_
  refine s_if ?_
  refine t_cmp ?_
  tlg_ne
  refine r_int ?_
  refine c_lti ⟨fun _ => ?_, fun _ => ?_⟩
  · refine s_cons ?_
    refine s_tup2 (by assumption) (Room.hh (by assumption)) (by lcg_sub) (by lcg_sub) ?_
    refine r_tuple ?_
    refine a_cons ?_
    refine m_own ?_
    tlg_ne
    refine met_t 5 (by decide) (by lcg_sub) (by lcg_sub) (by decide) ?_ mN5
    refine a_cons ?_
    tlg_ne
    refine a_cons ?_
    refine r_str ?_
    refine a_cons ?_
    refine r_str ?_
    refine a_cons ?_
    refine r_str ?_
    refine a_nil ?_
    refine CL.blk (T := treeLed P t) (by tb_start) (addElement_ok P hch hz (hr'.le (by decide)) fun x' d' c' a' n' => ⟨_, rfl, ?_⟩)
    rw [child_grow (by show ("element" : Str) ≠ _; decide) (by show ("element" : Str) ≠ _; decide)]
    refine a_cons ?_
    refine r_str ?_
    refine a_nil ?_
    refine ⟨by simp, fun tu => ?_⟩
    refine ⟨_, _, _, rfl, by lcg_sub, ?_⟩
    isplit
    isplit
    refine t_cons ?_
    refine s_expr (by assumption) ?_
    refine m_append ?_
    tlg_ne
    refine ⟨_, rfl, ⟨_, by lcg_sub⟩, ?_⟩
    tlg_ne
    refine ⟨inl inner, _, by krn_off, by first | exact len_map_le (len_map_le (by omega)) | exact len_map_le (by omega) | (simp; omega), ?_⟩
    repeat (first | (with_reducible refine thn ?_) | ((with_reducible show SV _ _ _ [] _ _ _); refine s_nil ?_))
    refine TR.subperm (l2 := (it, .riter ((j : Int) + 1) n) :: (so, .list [.int a, .int b]) :: (inn, .list (inl (inner ++ [t.rows.length]))) :: (d, .dictI (kvs qs) ep) :: (L, .frame (frG so t.x d inn (some (.int j)) (some (pav par)) (some (.int wy)) (some (.int own)) (some (.ref pa)) (some (.int t.rows.length)) (some (.str "element")))) :: (treeLed P (t.grow (newNode x' d' c' a' n' "element" "e" "" "e" "" par)) ++ M)) ?_ (by rw [inl_snoc]; tb_rel)
    have G1 : ∀ q w, GF (t.grow (newNode x' d' c' a' n' "element" "e" "" "e" "" par)) (qs ++ [⟨q, w, "element", pw ++ [t.rows.length]⟩]) inner (j + 1) := fun q w =>
      hG0.kid (by omega) (by decide) hplt hpk hp0 hp1
    exact grown_tail P hE hj (by unfold TreeA.grow; split <;> rfl) hb0 hb hpa hM hNq (by omega) (by omega) (fun q w => (G1 q w).more hil (by rw [grow_len]; omega) (by rw [grow_kinds hplt, if_pos rfl]; rfl)) (hh := hr'.le (by decide))
  · refine s_cons ?_
    refine s_if ?_
    refine t_cmp ?_
    tlg_ne
    refine r_int ?_
    refine c_eqi ⟨fun _ => ?_, fun _ => ?_⟩
    · refine s_cons ?_
      refine s_tup2 (by assumption) (Room.hh (by assumption)) (by lcg_sub) (by lcg_sub) ?_
      refine r_tuple ?_
      refine a_cons ?_
      refine m_own ?_
      tlg_ne
      refine met_t 6 (by decide) (by lcg_sub) (by lcg_sub) (by decide) ?_ mN6
      refine a_cons ?_
      tlg_ne
      refine a_cons ?_
      refine r_str ?_
      refine a_nil ?_
      refine CL.blk (T := treeLed P t) (by tb_start) (addText_ok P hch hz (hr'.le (by decide)) fun x' d' c' a' n' => ⟨_, rfl, ?_⟩)
      rw [child_grow (by show ("text" : Str) ≠ _; decide) (by show ("text" : Str) ≠ _; decide)]
      refine a_cons ?_
      refine r_str ?_
      refine a_nil ?_
      refine ⟨by simp, fun tu => ?_⟩
      refine ⟨_, _, _, rfl, by lcg_sub, ?_⟩
      isplit
      isplit
      repeat (first | (with_reducible refine thn ?_) | ((with_reducible show SV _ _ _ [] _ _ _); refine s_nil ?_))
      refine TR.subperm (l2 := (it, .riter ((j : Int) + 1) n) :: (so, .list [.int a, .int b]) :: (inn, .list (inl inner)) :: (d, .dictI (kvs qs) ep) :: (L, .frame (frG so t.x d inn (some (.int j)) (some (pav par)) (some (.int wy)) (some (.int own)) (some (.ref pa)) (some (.int t.rows.length)) (some (.str "text")))) :: (treeLed P (t.grow (newNode x' d' c' a' n' "text" "" "" "" "x" par)) ++ M)) ?_ (by tb_rel)
      have G1 : ∀ q w, GF (t.grow (newNode x' d' c' a' n' "text" "" "" "" "x" par)) (qs ++ [⟨q, w, "text", pw ++ [t.rows.length]⟩]) inner (j + 1) := fun q w =>
        hG0.kid (by omega) (by decide) hplt hpk hp0 hp1
      exact grown_tail P hE hj (by unfold TreeA.grow; split <;> rfl) hb0 hb hpa hM hNq (by omega) (by omega) G1 (hh := hr'.le (by decide))
    · refine s_cons ?_
      refine s_if ?_
      refine t_cmp ?_
      tlg_ne
      refine r_int ?_
      refine c_eqi ⟨fun _ => ?_, fun _ => ?_⟩
      · refine s_cons ?_
        refine s_tup2 (by assumption) (Room.hh (by assumption)) (by lcg_sub) (by lcg_sub) ?_
        refine r_tuple ?_
        refine a_cons ?_
        refine m_own ?_
        tlg_ne
        refine met_t 7 (by decide) (by lcg_sub) (by lcg_sub) (by decide) ?_ mN7
        refine a_cons ?_
        tlg_ne
        refine a_cons ?_
        refine r_str ?_
        refine a_nil ?_
        refine CL.blk (T := treeLed P t) (by tb_start) (addComment_ok P hch hz (hr'.le (by decide)) fun x' d' c' a' n' => ⟨_, rfl, ?_⟩)
        rw [child_grow (by show ("comment" : Str) ≠ _; decide) (by show ("comment" : Str) ≠ _; decide)]
        refine a_cons ?_
        refine r_str ?_
        refine a_nil ?_
        refine ⟨by simp, fun tu => ?_⟩
        refine ⟨_, _, _, rfl, by lcg_sub, ?_⟩
        isplit
        isplit
        repeat (first | (with_reducible refine thn ?_) | ((with_reducible show SV _ _ _ [] _ _ _); refine s_nil ?_))
        refine TR.subperm (l2 := (it, .riter ((j : Int) + 1) n) :: (so, .list [.int a, .int b]) :: (inn, .list (inl inner)) :: (d, .dictI (kvs qs) ep) :: (L, .frame (frG so t.x d inn (some (.int j)) (some (pav par)) (some (.int wy)) (some (.int own)) (some (.ref pa)) (some (.int t.rows.length)) (some (.str "comment")))) :: (treeLed P (t.grow (newNode x' d' c' a' n' "comment" "" "" "" "c" par)) ++ M)) ?_ (by tb_rel)
        have G1 : ∀ q w, GF (t.grow (newNode x' d' c' a' n' "comment" "" "" "" "c" par)) (qs ++ [⟨q, w, "comment", pw ++ [t.rows.length]⟩]) inner (j + 1) := fun q w =>
          hG0.kid (by omega) (by decide) hplt hpk hp0 hp1
        exact grown_tail P hE hj (by unfold TreeA.grow; split <;> rfl) hb0 hb hpa hM hNq (by omega) (by omega) G1 (hh := hr'.le (by decide))
      · refine s_cons ?_
        refine s_if ?_
        refine t_cmp ?_
        tlg_ne
        refine r_int ?_
        refine c_eqi ⟨fun _ => ?_, fun _ => ?_⟩
        · refine s_cons ?_
          refine s_tup2 (by assumption) (Room.hh (by assumption)) (by lcg_sub) (by lcg_sub) ?_
          refine r_tuple ?_
          refine a_cons ?_
          refine m_own ?_
          tlg_ne
          refine met_t 8 (by decide) (by lcg_sub) (by lcg_sub) (by decide) ?_ mN8
          refine a_cons ?_
          tlg_ne
          refine a_cons ?_
          refine r_str ?_
          refine a_cons ?_
          refine r_str ?_
          refine a_nil ?_
          refine CL.blk (T := treeLed P t) (by tb_start) (addInstruction_ok P hch hz (hr'.le (by decide)) fun x' d' c' a' n' => ⟨_, rfl, ?_⟩)
          rw [child_grow (by show ("instruction" : Str) ≠ _; decide) (by show ("instruction" : Str) ≠ _; decide)]
          refine a_cons ?_
          refine r_str ?_
          refine a_nil ?_
          refine ⟨by simp, fun tu => ?_⟩
          refine ⟨_, _, _, rfl, by lcg_sub, ?_⟩
          isplit
          isplit
          repeat (first | (with_reducible refine thn ?_) | ((with_reducible show SV _ _ _ [] _ _ _); refine s_nil ?_))
          refine TR.subperm (l2 := (it, .riter ((j : Int) + 1) n) :: (so, .list [.int a, .int b]) :: (inn, .list (inl inner)) :: (d, .dictI (kvs qs) ep) :: (L, .frame (frG so t.x d inn (some (.int j)) (some (pav par)) (some (.int wy)) (some (.int own)) (some (.ref pa)) (some (.int t.rows.length)) (some (.str "instruction")))) :: (treeLed P (t.grow (newNode x' d' c' a' n' "instruction" "t" "" "t" "d" par)) ++ M)) ?_ (by tb_rel)
          have G1 : ∀ q w, GF (t.grow (newNode x' d' c' a' n' "instruction" "t" "" "t" "d" par)) (qs ++ [⟨q, w, "instruction", pw ++ [t.rows.length]⟩]) inner (j + 1) := fun q w =>
            hG0.kid (by omega) (by decide) hplt hpk hp0 hp1
          exact grown_tail P hE hj (by unfold TreeA.grow; split <;> rfl) hb0 hb hpa hM hNq (by omega) (by omega) G1 (hh := hr'.le (by decide))
        · refine s_cons ?_
          refine s_if ?_
          refine t_cmp ?_
          tlg_ne
          refine r_int ?_
          refine c_eqi ⟨fun _ => ?_, fun _ => ?_⟩
          · refine s_cons ?_
            refine s_tup2 (by assumption) (Room.hh (by assumption)) (by lcg_sub) (by lcg_sub) ?_
            refine r_tuple ?_
            refine a_cons ?_
            refine m_own ?_
            tlg_ne
            refine met_t 10 (by decide) (by lcg_sub) (by lcg_sub) (by decide) ?_ mN10
            refine a_cons ?_
            tlg_ne
            refine a_cons ?_
            refine r_binop ?_
            refine r_str ?_
            refine rc_str (by assumption) (by assumption) (by lcg_sub) ?_
            tlg_ne
            refine b_str (by rw [Int.natAbs_natCast]; exact Nat.lt_of_le_of_lt (log2_small (by omega)) (by decide)) ?_
            refine o_adds ?_ (strl (by omega))
            refine a_cons ?_
            refine r_str ?_
            refine a_cons ?_
            refine r_binop ?_
            refine r_str ?_
            refine rc_str (by assumption) (by assumption) (by lcg_sub) ?_
            tlg_ne
            refine b_str (by rw [Int.natAbs_natCast]; exact Nat.lt_of_le_of_lt (log2_small (by omega)) (by decide)) ?_
            refine o_adds ?_ (strl (by omega))
            refine a_cons ?_
            refine r_str ?_
            refine a_nil ?_
            refine CL.blk (T := treeLed P t) (by tb_start) (setAttribute_ok P hon' hok hz (W.good.atl _ (List.mem_of_getElem? hon')) (noAt W hlen hon' (by omega)) (hr'.le (by decide)) fun x' d' c' a' n' => ⟨_, rfl, ?_⟩)
            rw [show ("k" : Str) ++ (toString (j : Int) : Str) = atName j from rfl, grow_at]
            refine a_cons ?_
            refine r_str ?_
            refine a_nil ?_
            refine ⟨by simp, fun tu => ?_⟩
            refine ⟨_, _, _, rfl, by lcg_sub, ?_⟩
            isplit
            isplit
            refine t_cons ?_
            refine s_assign ?_
            refine r_sub ?_
            refine r_sub ?_
            tlg_ne
            tlg_ne
            have hrow := row_in (l := treeLed P (t.grow (newNode x' d' c' a' n' "attribute" (atName j) "" (atName j) "v" (some own))) ++ M) (fun q hq => List.mem_append_right _ (hin q hq)) hor
            obtain ⟨w1, w2⟩ := hrow
            refine i_dict (by lcg_sub) (kvAt_kvs hor) ?_
            refine r_int ?_
            refine i_list (by lcg_sub) (by decide) (by decide) rfl ?_
            isplit
            repeat (first | (with_reducible refine thn ?_) | ((with_reducible show SV _ _ _ [] _ _ _); refine s_nil ?_))
            refine TR.subperm (l2 := (it, .riter ((j : Int) + 1) n) :: (so, .list [.int a, .int b]) :: (inn, .list (inl inner)) :: (d, .dictI (kvs qs) ep) :: (L, .frame (frG so t.x d inn (some (.int j)) (some (pav par)) (some (.int wy)) (some (.int own)) (some (.ref orow.w)) (some (.int t.rows.length)) (some (.str "attribute")))) :: (treeLed P (t.grow (newNode x' d' c' a' n' "attribute" (atName j) "" (atName j) "v" (some own))) ++ M)) ?_ (by tb_rel)
            have G1 : ∀ q w, GF (t.grow (newNode x' d' c' a' n' "attribute" (atName j) "" (atName j) "v" (some own))) (qs ++ [⟨q, w, "attribute", orow.way ++ [t.rows.length]⟩]) inner (j + 1) := fun q w =>
              hG0.beside (by omega) (by decide) (fun h => absurd h (by decide)) (fun _ => rfl) hon.1 (by rw [kinds_of hon']; exact hok) ok2
            exact grown_tail P hE hj (by unfold TreeA.grow; split <;> rfl) hb0 hb (row_in hin hor).2 hM hNq (by omega) (by omega) G1 (hh := hr'.le (by decide))
          · refine s_cons ?_
            refine s_tup2 (by assumption) (Room.hh (by assumption)) (by lcg_sub) (by lcg_sub) ?_
            refine r_tuple ?_
            refine a_cons ?_
            refine m_own ?_
            tlg_ne
            refine met_t 11 (by decide) (by lcg_sub) (by lcg_sub) (by decide) ?_ mN11
            refine a_cons ?_
            tlg_ne
            refine a_cons ?_
            refine r_binop ?_
            refine r_str ?_
            refine rc_str (by assumption) (by assumption) (by lcg_sub) ?_
            tlg_ne
            refine b_str (by rw [Int.natAbs_natCast]; exact Nat.lt_of_le_of_lt (log2_small (by omega)) (by decide)) ?_
            refine o_adds ?_ (strlp (by omega))
            refine a_cons ?_
            refine r_str ?_
            refine a_nil ?_
            refine CL.blk (T := treeLed P t) (by tb_start) (addNamespace_ok P hon' hok hz (W.good.nsl _ (List.mem_of_getElem? hon')) (noNs W hlen hon' (by omega)) (hr'.le (by decide)) fun x' d' c' a' n' => ⟨_, rfl, ?_⟩)
            rw [show ("p" : Str) ++ (toString (j : Int) : Str) = nsName j from rfl, grow_ns]
            refine a_cons ?_
            refine r_str ?_
            refine a_nil ?_
            refine ⟨by simp, fun tu => ?_⟩
            refine ⟨_, _, _, rfl, by lcg_sub, ?_⟩
            isplit
            isplit
            refine t_cons ?_
            refine s_assign ?_
            refine r_sub ?_
            refine r_sub ?_
            tlg_ne
            tlg_ne
            have hrow := row_in (l := treeLed P (t.grow (newNode x' d' c' a' n' "namespace" (nsName j) "" (nsName j) "u" (some own))) ++ M) (fun q hq => List.mem_append_right _ (hin q hq)) hor
            obtain ⟨w1, w2⟩ := hrow
            refine i_dict (by lcg_sub) (kvAt_kvs hor) ?_
            refine r_int ?_
            refine i_list (by lcg_sub) (by decide) (by decide) rfl ?_
            isplit
            repeat (first | (with_reducible refine thn ?_) | ((with_reducible show SV _ _ _ [] _ _ _); refine s_nil ?_))
            refine TR.subperm (l2 := (it, .riter ((j : Int) + 1) n) :: (so, .list [.int a, .int b]) :: (inn, .list (inl inner)) :: (d, .dictI (kvs qs) ep) :: (L, .frame (frG so t.x d inn (some (.int j)) (some (pav par)) (some (.int wy)) (some (.int own)) (some (.ref orow.w)) (some (.int t.rows.length)) (some (.str "namespace")))) :: (treeLed P (t.grow (newNode x' d' c' a' n' "namespace" (nsName j) "" (nsName j) "u" (some own))) ++ M)) ?_ (by tb_rel)
            have G1 : ∀ q w, GF (t.grow (newNode x' d' c' a' n' "namespace" (nsName j) "" (nsName j) "u" (some own))) (qs ++ [⟨q, w, "namespace", orow.way ++ [t.rows.length]⟩]) inner (j + 1) := fun q w =>
              hG0.beside (by omega) (by decide) (fun _ => ⟨rfl, rfl⟩) (fun h => absurd h (by decide)) hon.1 (by rw [kinds_of hon']; exact hok) ok2
            exact grown_tail P hE hj (by unfold TreeA.grow; split <;> rfl) hb0 hb (row_in hin hor).2 hM hNq (by omega) (by omega) G1 (hh := hr'.le (by decide))
theorem grown_turn (P : PX Z) {env : Env} {it so inn d L x : Addr} {total j n : Nat} {a b : Int} {t : TreeA} {qs : List RowA} {ep : Nat} {inner : List Nat} {pv wv ov pa nv kv : Option AV} {Q : AFlow → Led → Prop}
    (hE : EnvIs env L namesG []) (hj : j + 1 + n = total) (ht : total ≤ 7) (hx : t.x = x) (hb0 : 0 ≤ b) (hb : b < M31) (hG : GF t qs inner j) (hr' : Room A 9) :
    SV Z A env (match (fdB (stAt 26)).getD 4 (.Pass default) with | .For _ _ b _ _ => b | _ => []) ((it, .riter ((j : Int) + 1) n) :: (so, .list [.int a, .int b]) :: (inn, .list (inl inner)) :: (d, .dictI (kvs qs) ep) :: (L, .frame (frG so x d inn (some (.int j)) pv wv ov pa nv kv)) :: (treeLed P t ++ (qsLed qs ++ l))) (Turn (GInv P it so inn d L x total l) (n + 1) Q) noX := by
  obtain ⟨W, R, hlen, hinn, hrest, hel, hil⟩ := hG
  refine s_cons (s_tup3 (by assumption) hr'.hh (by lcg_sub) (by lcg_sub) (by lcg_sub) ?_)
  refine r_tuple ?_
  refine a_cons ?_
  refine r_callf (by assumption) 25 (by decide) (by assumption) (by lcg_sub) ?_ fN25
  refine a_cons ?_
  tlg_ne
  refine a_cons ?_
  refine r_binop ?_
  tlg_ne
  refine r_list ?_
  refine a_cons ?_
  refine r_none ?_
  refine a_nil ?_
  refine ⟨by simp, fun x1 => ?_⟩
  refine o_addl (xs := inl inner) (ys := [.none]) (by lcg_sub) (.head _) (by first | exact len_map_le (len_map_le (by omega)) | exact len_map_le (by omega) | (simp only [List.length_map]; omega)) (by simp) fun x2 => ?_
  refine a_nil ?_
  refine CL.blk1 (p := (so, .list [.int a, .int b])) (by tb_start) (one_ok P hb0 hb (xs := inl inner ++ [.none]) (by simp) (by first | exact len_map_le (len_map_le (by omega)) | exact len_map_le (by omega) | (simp; omega)) (by lcg_sub) (hr'.le (by decide)) fun a1 b1 pav' hpm hb01 hb1 => ⟨_, rfl, ?_⟩)
  obtain ⟨par, rfl, hpar⟩ : ∃ par : Option Nat, pav' = pav par ∧ ∀ p, par = some p → p ∈ inner := by
    rcases List.mem_append.mp hpm with h | h
    · obtain ⟨i, hi, rfl⟩ := List.mem_map.mp h
      obtain ⟨k, hk, rfl⟩ := List.mem_map.mp hi
      exact ⟨some k, rfl, fun p e => by cases e; exact hk⟩
    · simp only [List.mem_singleton] at h
      exact ⟨none, h, fun p e => by cases e⟩
  refine a_cons ?_
  refine r_callf (by assumption) 24 (by decide) (by assumption) (by lcg_sub) ?_ fN24
  refine a_cons ?_
  tlg_ne
  refine a_cons ?_
  refine r_int ?_
  refine a_nil ?_
  refine CL.blk1 (p := (so, .list [.int a1, .int b1])) (by tb_start) (take_ok P (top := 8) hb01 hb1 (by decide) (by decide) (hr'.le (by decide)) fun a2 b2 wy hwy hb02 hb2 => ⟨_, rfl, ?_⟩)
  refine a_cons ?_
  refine r_callf (by assumption) 25 (by decide) (by assumption) (by lcg_sub) ?_ fN25
  refine a_cons ?_
  tlg_ne
  refine a_cons ?_
  refine r_slice ?_
  tlg_ne
  refine eo_some ?_
  refine r_int ?_
  refine eo_none ?_
  refine eo_none ?_
  refine ⟨_, _, _, _, _, rfl, by lcg_sub, rfl, rfl, rfl, by decide, by first | exact len_map_le (len_map_le (by omega)) | exact len_map_le (by omega) | (simp only [List.length_map]; omega), fun x3 => ?_⟩
  rw [pickA_from1, inl_drop]
  refine a_nil ?_
  have hd1 : (inl (inner.drop 1)).length ≤ 1000 := by first | exact len_map_le (len_map_le (by omega)) | exact len_map_le (by omega) | (simp; omega)
  refine CL.blk1 (p := (so, .list [.int a2, .int b2])) (by tb_start) (one_ok P hb02 hb2 (xs := inl (inner.drop 1)) (fun h => hrest (List.map_eq_nil_iff.mp (List.map_eq_nil_iff.mp h))) hd1 (by lcg_sub) (hr'.le (by decide)) fun a3 b3 ow howm hb03 hb3 => ⟨_, rfl, ?_⟩)
  obtain ⟨own, hown, rfl⟩ : ∃ o, o ∈ inner.drop 1 ∧ ow = .int ((o : Nat) : Int) := by
    obtain ⟨i, hi, rfl⟩ := List.mem_map.mp howm
    obtain ⟨k, hk, rfl⟩ := List.mem_map.mp hi
    exact ⟨k, hk, rfl⟩
  refine a_nil ?_
  refine ⟨by simp, fun tu => ?_⟩
  refine ⟨_, _, _, _, rfl, by lcg_sub, ?_⟩
  isplit
  isplit
  isplit
  refine t_cons ?_
  refine s_assign ?_
  refine r_ifexp ?_
  refine t_cmp ?_
  tlg_ne
  refine r_none ?_
  refine c_isnot plain_pav ?_
  cases par with
  | none =>
    refine br_f rfl ?_
    refine r_list ?_
    refine a_nil ?_
    refine ⟨by simp, fun pa' => ?_⟩
    isplit
    refine thn ?_
    refine TR.subperm (l2 := (it, .riter ((j : Int) + 1) n) :: (so, .list [.int a3, .int b3]) :: (inn, .list (inl inner)) :: (d, .dictI (kvs qs) ep) :: (L, .frame (frG so x d inn (some (.int j)) (some (pav none)) (some (.int wy)) (some (.int own)) (some (.ref pa')) nv kv)) :: (treeLed P t ++ ((pa', .list (inl [])) :: (qsLed qs ++ l)))) ?_ ?_
    · exact grown_half P hE hj ht hx hb03 hb3 ⟨W, R, hlen, hinn, hrest, hel, hil⟩ hr' (.head _) (.drop Sb.refl) (.tail In.app) (by simp) (fun _ => rfl) (fun _ e => by cases e) hpar hown
    · refine Sb.pick (by l_intsC) (Sb.pick (by l_intsC) (Sb.pick (by l_intsC) (Sb.pick (by l_intsC) (Sb.pick (by l_intsC) ?_))))
      refine Sb.trans (.ofPerm List.perm_middle) ?_
      tb_rel
  | some p =>
    refine br_t rfl ?_
    have hpin := hpar p rfl
    have hpl := (hinn p hpin).1
    refine (fun r hr => ?_ : ∀ r, qs[p]? = some r → _) _ (List.getElem?_eq_getElem (by rw [R.len]; exact hpl))
    have hrow := row_in (l := treeLed P t ++ (qsLed qs ++ l)) (fun q hq => List.mem_append_right _ (In.app q hq)) hr
    obtain ⟨r1, r2⟩ := hrow
    obtain ⟨rk, rw'⟩ := R.row p r hr
    have hwl := rw'.len W
    refine r_sub ?_
    refine r_sub ?_
    tlg_ne
    tlg_ne
    refine i_dict (by lcg_sub) (kvAt_kvs hr) ?_
    refine r_int ?_
    refine i_list (by lcg_sub) (by decide) (by decide) rfl ?_
    isplit
    refine thn ?_
    refine TR.subperm (l2 := (it, .riter ((j : Int) + 1) n) :: (so, .list [.int a3, .int b3]) :: (inn, .list (inl inner)) :: (d, .dictI (kvs qs) ep) :: (L, .frame (frG so x d inn (some (.int j)) (some (pav (some p))) (some (.int wy)) (some (.int own)) (some (.ref r.w)) nv kv)) :: (treeLed P t ++ (qsLed qs ++ l))) ?_ (by tb_rel)
    exact grown_half P hE hj ht hx hb03 hb3 ⟨W, R, hlen, hinn, hrest, hel, hil⟩ hr' (row_in In.app hr).2 Sb.refl In.app (by omega) (fun e => (by cases e)) (fun q e => by cases e; exact rw') hpar hown
end
section
variable {Z : Amb} {A : Around} {l : Led} {X : Value → Shared → Prop}
noncomputable abbrev rootN (x d c a n : Addr) : NodeA := newNode x d c a n "root" "" "" "" "" none
noncomputable abbrev firstN (x d c a n : Addr) : NodeA := newNode x d c a n "element" "r" "" "r" "" (some 0)
theorem wf_empty (x d r : Addr) : Wf ⟨x, d, r, []⟩ := by
  constructor <;> first | exact Nat.zero_le _ | (intro i nd h; simp at h)
theorem wf_root (x d r x1 d1 c1 a1 n1 : Addr) : Wf (TreeA.add ⟨x, d, r, []⟩ (rootN x1 d1 c1 a1 n1)) :=
  (wf_empty x d r).grow (nd := rootN x1 d1 c1 a1 n1) (by show 0 < 20; decide) ⟨rfl, rfl, rfl⟩ (fun p e => by cases e) (fun p e => by cases e) (fun p e => by cases e) (by simp [newNode, sixKinds]) (fun _ => rfl) (fun h => absurd h (by show ¬ (("root" : Str) = "namespace"); decide)) (fun h => absurd h (by show ¬ (("root" : Str) = "attribute"); decide))
theorem grown_start {x d r x1 d1 c1 a1 n1 x2 d2 c2 a2 n2 q0 w0 q1 w1 : Addr} : GF ((TreeA.add ⟨x, d, r, []⟩ (rootN x1 d1 c1 a1 n1)).child (firstN x2 d2 c2 a2 n2)) [⟨q0, w0, "root", [0]⟩, ⟨q1, w1, "element", [0, 1]⟩] [0, 1] 0 := by
  rw [child_grow (by show ("element" : Str) ≠ _; decide) (by show ("element" : Str) ≠ _; decide)]
  have W1 := wf_root x d r x1 d1 c1 a1 n1
  have R0 : RowsOK ⟨x, d, r, []⟩ [] := ⟨rfl, fun i r h => by simp at h⟩
  have R1 : RowsOK (TreeA.add ⟨x, d, r, []⟩ (rootN x1 d1 c1 a1 n1)) [⟨q0, w0, "root", [0]⟩] := R0.grow (nd := rootN x1 d1 c1 a1 n1) (pw := []) (wf_empty x d r) (fun p e => by cases e) rfl rfl (fun _ => rfl) (fun p e => by cases e)
  have hp : ∀ p, (firstN x2 d2 c2 a2 n2).par = some p → p < (TreeA.add ⟨x, d, r, []⟩ (rootN x1 d1 c1 a1 n1)).rows.length := fun p e => by cases e; exact Nat.zero_lt_one
  have hw0 : WayIs (TreeA.add ⟨x, d, r, []⟩ (rootN x1 d1 c1 a1 n1)) 0 [0] := ⟨[], .nil, rfl⟩
  have W2 := W1.grow (nd := firstN x2 d2 c2 a2 n2) (by show 1 < 20; decide) ⟨rfl, rfl, rfl⟩ hp (fun p e _ => by cases e; exact .inl rfl) (fun p e h => absurd h (by show ¬ beside "element" = true; decide)) (by simp [newNode, sixKinds]) (fun h => absurd h (by show ¬ (("element" : Str) = "root"); decide)) (fun h => absurd h (by show ¬ (("element" : Str) = "namespace"); decide)) (fun h => absurd h (by show ¬ (("element" : Str) = "attribute"); decide))
  have R2 := R1.grow (nd := firstN x2 d2 c2 a2 n2) (r := ⟨q1, w1, "element", [0, 1]⟩) (pw := [0]) W1 hp rfl rfl (fun e => (by cases e)) (fun p e => by cases e; exact hw0)
  refine ⟨W2, R2, rfl, ?_, by decide, ?_, by decide⟩
  · intro k hk
    simp only [List.mem_cons, List.not_mem_nil, or_false] at hk
    rcases hk with rfl | rfl
    · exact ⟨by show 0 < 2; decide, .inl rfl⟩
    · exact ⟨by show 1 < 2; decide, .inr rfl⟩
  · intro k hk
    obtain rfl : k = 1 := by simpa using hk
    rfl
theorem grown_ok (P : PX Z) {so : Addr} {a b : Int} {Q : AV → Led → Prop} (hb0 : 0 ≤ b) (hb : b < M31) (hr : Room A 10)
    (h : ∀ (a' b' : Int) (t : TreeA) (qs : List RowA) (inner : List Nat) (j : Nat) (d : Addr) (ep : Nat) (tu : Addr), 0 ≤ b' → b' < M31 → GF t qs inner j → j ≤ 7 → Q (.ref tu) ((tu, .tuple [.ref t.x, .ref d]) :: (so, .list [.int a', .int b']) :: (d, .dictI (kvs qs) ep) :: (treeLed P t ++ (qsLed qs ++ l)))) :
    CD Z A (.ref (P.fa 26)) [.ref so, .int 8] ((so, .list [.int a, .int b]) :: l) Q X := by
  refine cd_fn (P.fdef 26 (by decide)).1 (m := [("source", some (.ref so)), ("many", some (.int 8)), ("tree", none), ("top", none), ("first", none), ("rows", none), ("inner", none), ("turn", none), ("parent", none), ("way", none), ("owner", none), ("path", none), ("node", none), ("kind", none)]) (names := [("source", .local), ("many", .local), ("tree", .local), ("top", .local), ("first", .local), ("rows", .local), ("inner", .local), ("turn", .local), ("parent", .local), ("way", .local), ("owner", .local), ("path", .local), ("node", .local), ("kind", .local), ("Tree", .globalImplicit), ("range", .globalImplicit), ("_law_take", .globalImplicit), ("_law_one", .globalImplicit), ("str", .globalImplicit)]) (ps := ["source", "many"]) (others := ["tree", "top", "first", "rows", "inner", "turn", "parent", "way", "owner", "path", "node", "kind"]) rfl rfl (fun doc pm cdv ct => bind2 fun v0 v1 => rfl) (by decide) rfl (k := 9) hr ?_
  intro env L A' hE hr'
  refine s_cons ?_
  refine s_assign ?_
  refine r_call0 (by assumption) (by lcg_sub) P.mkT.2.2.2.1 P.mkT.2.2.2.2 ?_
  refine CL.post (tree_ok P (hr'.le (by decide)) (Q := fun v l' => ∃ x d r, v = .ref x ∧ l' = treeLed P ⟨x, d, r, []⟩ ++ _) fun x d r => ⟨x, d, r, rfl, rfl⟩) ?_
  rintro _ _ ⟨x, d0, r0, rfl, rfl⟩
  refine ⟨(L, .frame [("source", some (.ref so)), ("many", some (.int 8)), ("tree", none), ("top", none), ("first", none), ("rows", none), ("inner", none), ("turn", none), ("parent", none), ("way", none), ("owner", none), ("path", none), ("node", none), ("kind", none)]) :: (so, .list [.int a, .int b]) :: (treeLed P ⟨x, d0, r0, []⟩ ++ l), ?_, ?_⟩
  · exact .ofPerm (by
      refine .trans ?_ List.perm_middle.symm
      exact (List.perm_middle.symm).cons _)
  have m1 := tree_in1 (P := P) (t := ⟨x, d0, r0, []⟩) (l := treeLed P ⟨x, d0, r0, []⟩ ++ l) In.app
  have m2 := tree_in2 (P := P) (t := ⟨x, d0, r0, []⟩) (l := treeLed P ⟨x, d0, r0, []⟩ ++ l) In.app
  have m3 := tree_in3 (P := P) (t := ⟨x, d0, r0, []⟩) (l := treeLed P ⟨x, d0, r0, []⟩ ++ l) In.app
  isplit
  refine t_cons ?_
  refine s_assign ?_
  refine m_own0 ?_
  tlg_ne
  refine met_t 3 (by decide) (by lcg_sub) (by lcg_sub) (by decide) ?_ mN3
  refine CL.blk (T := treeLed P ⟨x, d0, r0, []⟩) (by tb_start) (newRoot_ok P (t := ⟨x, d0, r0, []⟩) (by show 0 ≤ 50; decide) (hr'.le (by decide)) fun x1 d1 c1 a1 n1 => ⟨_, rfl, ?_⟩)
  have m1 := tree_in1 (P := P) (t := TreeA.add ⟨x, d0, r0, []⟩ (rootN x1 d1 c1 a1 n1)) (l := treeLed P (TreeA.add ⟨x, d0, r0, []⟩ (rootN x1 d1 c1 a1 n1)) ++ l) In.app
  have m2 := tree_in2 (P := P) (t := TreeA.add ⟨x, d0, r0, []⟩ (rootN x1 d1 c1 a1 n1)) (l := treeLed P (TreeA.add ⟨x, d0, r0, []⟩ (rootN x1 d1 c1 a1 n1)) ++ l) In.app
  have m3 := tree_in3 (P := P) (t := TreeA.add ⟨x, d0, r0, []⟩ (rootN x1 d1 c1 a1 n1)) (l := treeLed P (TreeA.add ⟨x, d0, r0, []⟩ (rootN x1 d1 c1 a1 n1)) ++ l) In.app
  isplit
  refine t_cons ?_
  refine s_assign ?_
  refine m_own ?_
  tlg_ne
  refine met_t 5 (by decide) (by lcg_sub) (by lcg_sub) (by decide) ?_ mN5
  refine a_cons ?_
  tlg_ne
  refine a_cons ?_
  refine r_str ?_
  refine a_cons ?_
  refine r_str ?_
  refine a_cons ?_
  refine r_str ?_
  refine a_nil ?_
  refine CL.blk (T := treeLed P (TreeA.add ⟨x, d0, r0, []⟩ (rootN x1 d1 c1 a1 n1))) (by tb_start) (addElement_ok P (t := TreeA.add ⟨x, d0, r0, []⟩ (rootN x1 d1 c1 a1 n1)) (par := some 0) (fun p e => by cases e; exact ⟨rootN x1 d1 c1 a1 n1, rfl, .inl rfl, by show 0 ≤ 50; decide⟩) (by show 1 ≤ 50; decide) (hr'.le (by decide)) fun x2 d2 c2 a2 n2 => ⟨_, rfl, ?_⟩)
  have G0 : ∀ q0 w0 q1 w1, GF ((TreeA.add ⟨x, d0, r0, []⟩ (rootN x1 d1 c1 a1 n1)).child (firstN x2 d2 c2 a2 n2)) [⟨q0, w0, "root", [0]⟩, ⟨q1, w1, "element", [0, 1]⟩] [0, 1] 0 := fun q0 w0 q1 w1 => grown_start
  have hx : ((TreeA.add ⟨x, d0, r0, []⟩ (rootN x1 d1 c1 a1 n1)).child (firstN x2 d2 c2 a2 n2)).x = x := rfl
  generalize (TreeA.add ⟨x, d0, r0, []⟩ (rootN x1 d1 c1 a1 n1)).child (firstN x2 d2 c2 a2 n2) = t at G0 hx ⊢
  isplit
  refine t_cons ?_
  refine s_tup2 (by assumption) (Room.hh (by assumption)) (by lcg_sub) (by lcg_sub) ?_
  refine r_tuple ?_
  refine a_cons ?_
  refine r_dict2 fun d => ?_
  tlg_ne
  refine r_list ?_
  refine a_cons ?_
  refine r_str ?_
  refine a_cons ?_
  refine r_list ?_
  refine a_cons ?_
  tlg_ne
  refine a_nil ?_
  refine ⟨by simp, fun w0 => ?_⟩
  refine a_nil ?_
  refine ⟨by simp, fun q0 => ?_⟩
  tlg_ne
  refine r_list ?_
  refine a_cons ?_
  refine r_str ?_
  refine a_cons ?_
  refine r_list ?_
  refine a_cons ?_
  tlg_ne
  refine a_cons ?_
  tlg_ne
  refine a_nil ?_
  refine ⟨by simp, fun w1 => ?_⟩
  refine a_nil ?_
  refine ⟨by simp, fun q1 => ?_⟩
  refine ⟨0, 1, rfl, rfl, by decide, fun ep => ⟨_, by krn_off, ?_⟩⟩
  refine a_cons ?_
  refine r_list ?_
  refine a_cons ?_
  tlg_ne
  refine a_cons ?_
  tlg_ne
  refine a_nil ?_
  refine ⟨by simp, fun inn => ?_⟩
  refine a_nil ?_
  refine ⟨by simp, fun tu => ?_⟩
  refine ⟨_, _, _, rfl, by lcg_sub, ?_⟩
  isplit
  isplit
  refine t_cons ?_
  refine s_for ?_
  refine rc_range (by assumption) (by assumption) (by lcg_sub) ?_
  refine r_callf (by assumption) 24 (by decide) (by assumption) (by lcg_sub) ?_ fN24
  refine a_cons ?_
  tlg_ne
  refine a_cons ?_
  tlg_ne
  refine a_nil ?_
  refine CL.blk1 (p := (so, .list [.int a, .int b])) (by tb_start) (take_ok P (top := 8) hb0 hb (by decide) (by decide) (hr'.le (by decide)) fun a2 b2 tot htot hb02 hb2 => ⟨_, rfl, ?_⟩)
  refine b_range fun rg => ?_
  refine iter_range (n := tot) (by lcg_sub) (by omega) fun it => ?_
  refine inv_sb (GInv P it so inn d L x tot l) tot (l0 := (it, .riter ((0 : Nat) : Int) tot) :: (so, .list [.int a2, .int b2]) :: (inn, .list (inl [0, 1])) :: (d, .dictI (kvs [⟨q0, w0, "root", [0]⟩, ⟨q1, w1, "element", [0, 1]⟩]) ep) :: (L, .frame (frG so x d inn none none none none none none none)) :: (treeLed P t ++ (qsLed [⟨q0, w0, "root", [0]⟩, ⟨q1, w1, "element", [0, 1]⟩] ++ l))) ?_ ⟨0, a2, b2, t, _, ep, _, none, none, none, none, none, none, none, Nat.zero_add _, hx, hb02, hb2, G0 q0 w0 q1 w1, rfl⟩ ?_
  · refine Sb.pick (by l_intsC) ?_
    refine Sb.pick (by l_intsC) ?_
    refine Sb.pick (by l_intsC) ?_
    refine Sb.pick (by l_intsC) ?_
    refine Sb.pick (by l_intsC) ?_
    refine Sb.trans (.ofPerm (List.perm_append_comm_assoc ..)) ?_
    show Sb ((q0, .list [.str "root", .ref w0]) :: (w0, .list (inl [0])) :: (q1, .list [.str "element", .ref w1]) :: (w1, .list (inl [0, 1])) :: (treeLed P t ++ l)) _
    tb_rel
  rintro J hJ n l3 ⟨j, a, b, t, qs, ep, inner, tv, pv, wv, ov, pa, nv, kv, hj, hx, hb0, hb, G, rfl⟩
  cases n with
  | zero =>
    left
    refine ⟨_, end_range hr'.hh (by lcg_sub) (by lcg_off) (by simp), ?_⟩
    refine t_cons ?_
    refine s_ret ?_
    refine r_tuple ?_
    refine a_cons ?_
    tlg_ne
    refine a_cons ?_
    tlg_ne
    refine a_nil ?_
    refine ⟨by simp, fun tu2 => ?_⟩
    refine thr ?_
    refine ⟨_, ?_, h a b t qs inner j d ep tu2 hb0 hb G (by omega)⟩
    subst hx
    tb_rel
  | succ n =>
    right
    refine ⟨.int j, _, next_range (by krn_off), ?_⟩
    isplit
    exact TR.mono (grown_turn P hE (by omega) (by omega) hx hb0 hb G hr') fun f l1 hf => turn_mono hJ hf
end
theorem nodupS {m : List (Str × Option AV)} {ks : List Str} (h : ks.Nodup) (e : m.map (·.1) = ks := by rfl) : (m.map (·.1)).Nodup := e ▸ h
theorem cells1 {cs : List Addr} (h : cs.length = 1) : ∃ a, cs = [a] := by
  match cs, h with
  | [a], _ => exact ⟨a, rfl⟩
theorem cells2 {cs : List Addr} (h : cs.length = 2) : ∃ a b, cs = [a, b] := by
  match cs, h with
  | [a, b], _ => exact ⟨a, b, rfl⟩
theorem cells3 {cs : List Addr} (h : cs.length = 3) : ∃ a b c, cs = [a, b, c] := by
  match cs, h with
  | [a, b, c], _ => exact ⟨a, b, c, rfl⟩
theorem cells_all1 {T : List Addr → Prop} (h : ∀ a, T [a]) : ∀ cs : List Addr, cs.length = 1 → T cs := fun cs e => by obtain ⟨a, rfl⟩ := cells1 e; exact h a
theorem cells_all2 {T : List Addr → Prop} (h : ∀ a b, T [a, b]) : ∀ cs : List Addr, cs.length = 2 → T cs := fun cs e => by obtain ⟨a, b, rfl⟩ := cells2 e; exact h a b
theorem cells_all3 {T : List Addr → Prop} (h : ∀ a b c, T [a, b, c]) : ∀ cs : List Addr, cs.length = 3 → T cs := fun cs e => by obtain ⟨a, b, c, rfl⟩ := cells3 e; exact h a b c
noncomputable def isKid (k : Str) : Bool := strIn k [.str "element", .str "text", .str "comment", .str "instruction"]
section
variable {Z : Amb} {A : Around} {l : Led} {X : Value → Shared → Prop}
theorem isChild_ok (P : PX Z) {d : Addr} {qs : List RowA} {ep i : Nat} {r : RowA} {Q : AV → Led → Prop} (hd : (d, .dictI (kvs qs) ep) ∈ l) (hq : In (qsLed qs) l) (hi : qs[i]? = some r) (hr : Room A 3)
    (h : Q (.bool (isKid r.kind)) l) : CD Z A (.ref (P.fa 28)) [.ref d, .int i] l Q X := by
  have r1 := row_in1 hq hi
  have r2 := row_in2 hq hi
  refine cd_fn (P.fdef 28 (by decide)).1 (m := [("rows", some (.ref d)), ("node", some (.int i))]) (names := [("rows", .local), ("node", .local)]) (ps := ["rows", "node"]) (others := []) rfl rfl (fun doc pm cdv ct => bind2 fun v0 v1 => rfl) (by decide) rfl (k := 2) hr ?_
  intro env L A' hE hr'
  refine s_cons ?_
  refine s_ret ?_
  refine r_cmp ?_
  refine r_sub ?_
  refine r_sub ?_
  tlg_ne
  tlg_ne
  refine i_dict (by lcg_sub) (kvAt_kvs hi) ?_
  refine r_int ?_
  refine i_list (by lcg_sub) (by decide) (by decide) rfl ?_
  refine r_tuple ?_
  refine a_cons ?_
  refine r_str ?_
  refine a_cons ?_
  refine r_str ?_
  refine a_cons ?_
  refine r_str ?_
  refine a_cons ?_
  refine r_str ?_
  refine a_nil ?_
  refine ⟨by simp, fun tu => ?_⟩
  refine c_instr (by lcg_sub) (by simp) ?_
  refine thr ?_
  exact ⟨_, by tb_rel, h⟩
theorem beside_two (k : Str) : ((k == "attribute") || (k == "namespace")) = beside k := by rw [beside_eq]; rfl
theorem place_ok (P : PX Z) {d : Addr} {qs : List RowA} {ep i : Nat} {r : RowA} {Q : AV → Led → Prop} (hd : (d, .dictI (kvs qs) ep) ∈ l) (hq : In (qsLed qs) l) (hi : qs[i]? = some r) (hz : r.way.length ≤ 100) (hw : r.way ≠ []) (hr : Room A 3)
    (h1 : beside r.kind = true → ∀ tu w, Q (.ref tu) ((tu, .tuple [.ref w, .bool true]) :: (w, .list (inl r.way.dropLast)) :: l))
    (h2 : beside r.kind = false → ∀ tu, Q (.ref tu) ((tu, .tuple [.ref r.w, .bool false]) :: l)) : CD Z A (.ref (P.fa 29)) [.ref d, .int i] l Q X := by
  have r1 := row_in1 hq hi
  have r2 := row_in2 hq hi
  have hpos : 1 ≤ r.way.length := List.length_pos_iff.mpr hw
  refine cd_fn (P.fdef 29 (by decide)).1 (m := [("rows", some (.ref d)), ("node", some (.int i)), ("kind", none), ("way", none), ("beside", none)]) (names := [("rows", .local), ("node", .local), ("kind", .local), ("way", .local), ("beside", .local), ("len", .globalImplicit)]) (ps := ["rows", "node"]) (others := ["kind", "way", "beside"]) rfl rfl (fun doc pm cdv ct => bind2 fun v0 v1 => rfl) (by decide) rfl (k := 2) hr ?_
  intro env L A' hE hr'
  refine s_cons ?_
  refine s_unp2 (Room.hh (by assumption)) ?_
  refine r_sub ?_
  tlg_ne
  tlg_ne
  refine i_dict (by lcg_sub) (kvAt_kvs hi) ?_
  refine ⟨_, _, _, rfl, .inr (by lcg_sub), ?_⟩
  isplit
  isplit
  refine t_cons ?_
  refine s_assign ?_
  refine r_or2 ?_
  refine r_cmp ?_
  tlg_ne
  refine r_str ?_
  have finT : beside r.kind = true → SV Z A' env ((fdB (stAt 29)).drop 2) ((L, .frame [("rows", some (.ref d)), ("node", some (.int i)), ("kind", some (.str r.kind)), ("way", some (.ref r.w)), ("beside", some (.bool true))]) :: l) (fun fl => Up (Q (retOf fl))) noX := by
    intro hb
    refine s_cons ?_
    refine s_ret ?_
    refine r_ifexp ?_
    refine t_name ?_
    tlg_ne
    refine ⟨_, rfl, br_t rfl ?_⟩
    refine r_tuple ?_
    refine a_cons ?_
    refine r_slice ?_
    tlg_ne
    refine eo_none ?_
    refine eo_some ?_
    refine r_binop ?_
    refine rc_len (by assumption) (by assumption) (by lcg_sub) ?_
    tlg_ne
    refine b_len (by lcg_sub) (by first | exact len_map_le (len_map_le (by omega)) | exact len_map_le (by omega) | (simp only [List.length_map]; omega)) ?_
    refine r_int ?_
    refine o_sub ?_
    refine eo_none ?_
    rw [show (((inl r.way).length : Nat) : Int) - 1 = ((r.way.length - 1 : Nat) : Int) by first | exact len_map_le (len_map_le (by omega)) | exact len_map_le (by omega) | (simp; omega)]
    refine ⟨_, _, _, _, _, rfl, by lcg_sub, rfl, rfl, rfl, by simp, by first | exact len_map_le (len_map_le (by omega)) | exact len_map_le (by omega) | (simp only [List.length_map]; omega), fun w => ?_⟩
    rw [pickA_upto, inl_take, ← List.dropLast_eq_take]
    refine a_cons ?_
    refine r_bool ?_
    refine a_nil ?_
    refine ⟨by simp, fun tu => ?_⟩
    refine thr ?_
    exact ⟨_, by tb_rel, h1 hb tu w⟩
  refine c_eqs ⟨_, rfl, fun e1 => ?_, fun e1 => ?_⟩
  · refine r_cmp ?_
    tlg_ne
    refine r_str ?_
    refine c_eqs ?_
    cases e2 : (r.kind == ("namespace" : Str)) with
    | true =>
      isplit
      refine thn ?_
      exact finT (by rw [← beside_two, e1, e2]; rfl)
    | false =>
      have hb : beside r.kind = false := by rw [← beside_two, e1, e2]; rfl
      isplit
      refine t_cons ?_
      refine s_ret ?_
      refine r_ifexp ?_
      refine t_name ?_
      tlg_ne
      refine ⟨_, rfl, br_f rfl ?_⟩
      refine r_tuple ?_
      refine a_cons ?_
      tlg_ne
      refine a_cons ?_
      refine r_bool ?_
      refine a_nil ?_
      refine ⟨by simp, fun tu => ?_⟩
      refine thr ?_
      exact ⟨_, by tb_rel, h2 hb tu⟩
  · isplit
    refine thn ?_
    exact finT (by rw [← beside_two, e1]; rfl)
end
local macro_rules | `(tactic| nest_room) => `(tactic| refine r_cellname (by assumption) (by lcg_sub) (by lcg_sub) (by lcg_sub) ?_)
theorem kvs_get {qs : List RowA} {i : Nat} {r : RowA} (h : qs[i]? = some r) : (kvs qs)[i]? = some ((i : Int), .ref r.q) := by
  unfold kvs
  rw [List.getElem?_mapIdx, h]; rfl
noncomputable def nearF (qs : List RowA) (w : List Nat) (kx : List AV) (o : Nat) : Bool := match qs[o]? with
  | some r => decide (r.way.dropLast = w) && strIn r.kind kx
  | none => false
noncomputable def near (qs : List RowA) (w : List Nat) (kx : List AV) : List Nat := (List.range qs.length).filter (nearF qs w kx)
theorem inl_dropLast {xs : List Nat} : (inl xs).dropLast = inl xs.dropLast := by simp [List.map_dropLast]
theorem nl_inj {a b : List Nat} (h : nl a = nl b) : a = b := by
  induction a generalizing b with
  | nil => cases b with
    | nil => rfl
    | cons x r => simp at h
  | cons x r ih => cases b with
    | nil => simp at h
    | cons y s =>
      simp only [nl, List.map_cons, List.cons.injEq] at h
      rw [ih h.2]
      congr 1
      omega
theorem dec_nl {a b : List Nat} : decide (nl a = nl b) = decide (a = b) := by
  by_cases h : a = b
  · subst h; simp
  · rw [decide_eq_false h, decide_eq_false (fun q => h (nl_inj q))]
theorem sorted_filter {n : Nat} {f : Nat → Bool} : (nl ((List.range n).filter f)).Pairwise (· ≤ ·) := by
  unfold nl
  rw [List.pairwise_map]
  have : ((List.range n).filter f).Pairwise (· < ·) := List.Pairwise.filter _ List.pairwise_lt_range
  exact this.imp fun h => by omega
theorem perm_sorted : ∀ {a b : List Int}, a.Perm b → a.Pairwise (· ≤ ·) → b.Pairwise (· ≤ ·) → a = b := by
  intro a b h h1 h2
  exact h.eq_of_pairwise (le := (· ≤ ·)) (fun x y _ _ h3 h4 => Int.le_antisymm h3 h4) h1 h2
section
variable {Z : Amb} {A : Around} {l : Led} {X : Value → Shared → Prop}
theorem near_ok (P : PX Z) {d kt : Addr} {qs : List RowA} {ep i : Nat} {r : RowA} {kx : List AV} {Q : AV → Led → Prop} (hd : (d, .dictI (kvs qs) ep) ∈ l) (hq : In (qsLed qs) l) (hkt : (kt, .tuple kx) ∈ l) (hkx : ∀ v ∈ kx, ∃ y, v = .str y) (hi : qs[i]? = some r)
    (hz : qs.length ≤ 50) (hwz : ∀ q ∈ qs, q.way.length ≤ 50) (hr : Room A 5)
    (h : ∀ b, Q (.ref b) ((b, .list (inl (near qs r.way kx))) :: l)) : CD Z A (.ref (P.fa 32)) [.ref d, .int i, .ref kt] l Q X := by
  have r1 := row_in1 hq hi
  have r2 := row_in2 hq hi
  refine cd_fnC (P.fdef 32 (by decide)).1 (m := []) (names := [("rows", .cell), ("node", .cell), ("kinds", .cell), ("sorted", .globalImplicit)]) (ps := ["rows", "node", "kinds"]) (ks := [true, true, true]) (others := []) (cx := [("kinds", some (.ref kt)), ("node", some (.int i)), ("rows", some (.ref d))]) (cxk := ["kinds", "node", "rows"]) rfl rfl rfl (fun doc pm cdv ct => bind3 fun v0 v1 v2 => rfl) (by decide) (nodupS (ks := []) (by decide)) (by intro p hp; simp only [List.mem_cons, List.not_mem_nil, or_false] at hp; rcases hp with rfl | rfl | rfl <;> rfl) rfl (k := 4) hr ?_
  intro env L A'
  refine cells_all3 fun c_kinds c_node c_rows (hE : EnvIs env L _ [("kinds", c_kinds), ("node", c_node), ("rows", c_rows)]) hr' => (?_ : SV Z A' env _ ((L, .frame []) :: (c_kinds, .cell (some (.ref kt))) :: (c_node, .cell (some (.int i))) :: (c_rows, .cell (some (.ref d))) :: l) _ _)
  refine s_cons ?_
  refine s_ret ?_
  refine rc_sorted (by assumption) (by assumption) (by lcg_sub) ?_
  refine r_compF (m := [(".0", none), ("other", none)]) (names' := [("other", .local), ("kinds", .cell), ("node", .cell), ("rows", .cell)]) (cells' := [("kinds", c_kinds), ("node", c_node), ("rows", c_rows)]) (ck := ["kinds", "node", "rows"]) (ck' := ["kinds", "node", "rows"]) hE rfl rfl (by simp) (by decide) ?_
  nest_room
  refine iter_dict (by lcg_sub) fun it => ⟨fun l3 hs3 => self_dict (hs3.subset (.head _)), fun C D cenv hEc => ?_⟩
  have hlen : i < qs.length := (List.getElem?_eq_some_iff.mp hi).1
  refine inv_comp21 (fun j vo => qs.length - j) (fun j vo => j ≤ qs.length) (fun j vo => (C, .frame [(".0", none), ("other", vo)]) :: (D, .list (inl ((List.range j).filter (nearF qs r.way kx)))) :: (it, .kiter d j (kvs qs).length ep) :: (L, .frame []) :: (c_kinds, .cell (some (.ref kt))) :: (c_node, .cell (some (.int i))) :: (c_rows, .cell (some (.ref d))) :: l) 0 none Sb.refl (Nat.zero_le _) fun J (hNj : ∀ j vo, j ≤ qs.length → J (qs.length - j) ((C, .frame [(".0", none), ("other", vo)]) :: (D, .list (inl ((List.range j).filter (nearF qs r.way kx)))) :: (it, .kiter d j (kvs qs).length ep) :: (L, .frame []) :: (c_kinds, .cell (some (.ref kt))) :: (c_node, .cell (some (.int i))) :: (c_rows, .cell (some (.ref d))) :: l)) j vo (hjl : j ≤ qs.length) => (?_ : TurnK Z _ _ ((C, .frame [(".0", none), ("other", vo)]) :: (D, .list (inl ((List.range j).filter (nearF qs r.way kx)))) :: (it, .kiter d j (kvs qs).length ep) :: (L, .frame []) :: (c_kinds, .cell (some (.ref kt))) :: (c_node, .cell (some (.int i))) :: (c_rows, .cell (some (.ref d))) :: l) _ _ _)
  by_cases hj : j < qs.length
  · right
    refine (fun o ho => ?_ : ∀ o, qs[j]? = some o → _) _ (List.getElem?_eq_getElem hj)
    have o1 := row_in1 hq ho
    have o2 := row_in2 hq ho
    have how := hwz o (List.mem_of_getElem? ho)
    have hrw := hwz r (List.mem_of_getElem? hi)
    have hfl : ((List.range j).filter (nearF qs r.way kx)).length ≤ j := by
      refine Nat.le_trans (List.length_filter_le _ _) ?_
      rw [List.length_range]; exact Nat.le_refl _
    have hstep : ∀ b, nearF qs r.way kx j = b → (List.range (j + 1)).filter (nearF qs r.way kx) = (List.range j).filter (nearF qs r.way kx) ++ if b = true then [j] else [] := by
      intro b hb
      rw [List.range_succ, List.filter_append, List.filter_cons, hb, List.filter_nil]
    have hval : nearF qs r.way kx j = (decide (o.way.dropLast = r.way) && strIn o.kind kx) := by unfold nearF; rw [ho]
    refine ⟨.int j, _, next_dict (by krn_off) (by lcg_sub) (kvs_get ho), ?_⟩
    isplit
    refine ifs_one ?_
    refine t_and2 ?_
    refine t_cmp ?_
    refine r_slice ?_
    refine r_sub ?_
    refine r_sub ?_
    nest_room
    tlg_ne
    refine i_dict (by lcg_sub) (kvAt_kvs ho) ?_
    refine r_int ?_
    refine i_list (by lcg_sub) (by decide) (by decide) rfl ?_
    refine eo_none ?_
    refine eo_some ?_
    refine r_negc ?_
    refine eo_none ?_
    refine ⟨_, _, _, _, _, rfl, by lcg_sub, rfl, rfl, rfl, by decide, by first | exact len_map_le (len_map_le (by omega)) | exact len_map_le (by omega) | (simp only [List.length_map]; omega), fun sl => ?_⟩
    rw [pickA_last, inl_dropLast]
    refine r_sub ?_
    refine r_sub ?_
    nest_room
    nest_room
    refine i_dict (by lcg_sub) (kvAt_kvs hi) ?_
    refine r_int ?_
    refine i_list (by lcg_sub) (by decide) (by decide) rfl ?_
    refine c_eql (ns := nl o.way.dropLast) (ms := nl r.way) (by lcg_sub) (by lcg_sub) hr'.cl ?_
    rw [dec_nl]
    cases h1 : decide (o.way.dropLast = r.way) with
    | false =>
      refine br_f rfl ⟨fun e => (by first | exact ctf e | exact cft e), fun _ => ?_⟩
      rw [h1, Bool.false_and] at hval
      refine ⟨qs.length - (j + 1), _, dec_lt hj, ?_, hNj (j + 1) (some (.int j)) hj⟩
      refine Sb.pick (by l_intsC) (Sb.pick (by (repeat (first | (with_reducible refine Pick.head' ?_) | (with_reducible apply Pick.tail))); refine congrArg AObj.list ?_; rw [hstep _ hval, if_neg (by decide), List.append_nil]) ?_)
      tb_rel
    | true =>
      refine br_t rfl ?_
      rw [h1, Bool.true_and] at hval
      refine t_cmp ?_
      refine r_sub ?_
      refine r_sub ?_
      nest_room
      tlg_ne
      refine i_dict (by lcg_sub) (kvAt_kvs ho) ?_
      refine r_int ?_
      refine i_list (by lcg_sub) (by decide) (by decide) rfl ?_
      nest_room
      refine c_instr (by lcg_sub) hkx ?_
      refine ⟨fun e => ?_, fun e => ?_⟩
      · rw [e] at hval
        tlg_ne
        refine ⟨_, _, by krn_off, by first | exact len_map_le (len_map_le (by omega)) | exact len_map_le (by omega) | (simp only [List.length_map]; omega), qs.length - (j + 1), _, dec_lt hj, ?_, hNj (j + 1) (some (.int j)) hj⟩
        refine Sb.pick (by l_intsC) (Sb.pick (by (repeat (first | (with_reducible refine Pick.head' ?_) | (with_reducible apply Pick.tail))); refine congrArg AObj.list ?_; rw [hstep _ hval, if_pos rfl, inl_snoc]) ?_)
        tb_rel
      · rw [e] at hval
        refine ⟨qs.length - (j + 1), _, dec_lt hj, ?_, hNj (j + 1) (some (.int j)) hj⟩
        refine Sb.pick (by l_intsC) (Sb.pick (by (repeat (first | (with_reducible refine Pick.head' ?_) | (with_reducible apply Pick.tail))); refine congrArg AObj.list ?_; rw [hstep _ hval, if_neg (by decide), List.append_nil]) ?_)
        tb_rel
  · left
    have hje : j = qs.length := Nat.le_antisymm hjl (Nat.le_of_not_lt hj)
    subst hje
    refine ⟨_, end_dict hr'.hh (by lcg_sub) (by lcg_sub) (by rw [kvs_len]; omega) (by lcg_off) (by simp), ?_⟩
    refine ⟨_, _, by lcg_sub, by lcg_off, by simp, ?_⟩
    refine b_sortedI (ns := nl ((List.range qs.length).filter (nearF qs r.way kx))) (by lcg_sub) ?_ fun b ms h1 h2 => ?_
    · rw [List.length_map]
      refine Nat.lt_of_le_of_lt (List.length_filter_le _ _) ?_
      rw [List.length_range]; omega
    rw [perm_sorted h1 h2 sorted_filter]
    refine thr ?_
    exact ⟨_, by tb_rel, h b⟩
end
noncomputable def TreeA.cut (t : TreeA) (p g : Nat) (k : Str) : TreeA := (t.mod p (·.del k g)).mod g (·.loose)
theorem del_same (n : NodeA) (k : Str) (i : Nat) : (n.del k i).kind = n.kind ∧ (n.del k i).par = n.par ∧ (n.del k i).name = n.name ∧ (n.del k i).val = n.val ∧ (n.del k i).loc = n.loc := by
  unfold NodeA.del
  split
  · exact ⟨rfl, rfl, rfl, rfl, rfl⟩
  · split <;> exact ⟨rfl, rfl, rfl, rfl, rfl⟩
theorem cut_get {t : TreeA} {p g : Nat} {k : Str} (hpg : p ≠ g) {i : Nat} : (t.cut p g k).rows[i]? = (t.rows[i]?).map fun q => if i = g then q.loose else if i = p then q.del k g else q := by
  unfold TreeA.cut TreeA.mod
  simp only [List.getElem?_modify]
  by_cases h1 : g = i
  · subst h1
    simp [hpg]
  · have h1' : ¬ i = g := fun e => h1 e.symm
    by_cases h2 : p = i
    · subst h2; simp [h1, h1']
    · have h2' : ¬ i = p := fun e => h2 e.symm
      simp [h1, h2, h1', h2']
theorem cut_len {t : TreeA} {p g : Nat} {k : Str} : (t.cut p g k).rows.length = t.rows.length := by unfold TreeA.cut TreeA.mod; simp
theorem cut_node (p g : Nat) (k : Str) (i : Nat) (q : NodeA) : let q' := (if i = g then q.loose else if i = p then q.del k g else q); q'.kind = q.kind ∧ q'.name = q.name ∧ q'.val = q.val ∧ q'.loc = q.loc ∧ q'.par = if i = g then none else q.par := by
  dsimp only
  by_cases h : i = g
  · simp only [if_pos h]; exact ⟨rfl, rfl, rfl, rfl, rfl⟩
  · simp only [if_neg h]
    split
    · obtain ⟨a, b, c, d, e⟩ := del_same q k g
      exact ⟨a, c, d, e, b⟩
    · exact ⟨rfl, rfl, rfl, rfl, rfl⟩
theorem cut_kinds {t : TreeA} {p g : Nat} {k : Str} (hpg : p ≠ g) {i : Nat} : (t.cut p g k).kinds i = t.kinds i := by
  unfold TreeA.kinds
  rw [cut_get hpg, Option.map_map]
  congr 2
  funext q
  exact (cut_node p g k i q).1
theorem cut_pars {t : TreeA} {p g : Nat} {k : Str} (hpg : p ≠ g) {i : Nat} : (t.cut p g k).pars i = if i = g then none else t.pars i := by
  unfold TreeA.pars
  rw [cut_get hpg]
  cases e : t.rows[i]? with
  | none => simp
  | some q =>
    simp only [Option.map_some, Option.getD_some]
    exact (cut_node p g k i q).2.2.2.2
theorem cut_under {t : TreeA} {p g : Nat} {k : Str} (hpg : p ≠ g) {c : Str → Bool} {i : Nat} : (t.cut p g k).under c i = (t.under c i).filter (· != g) := by
  unfold TreeA.under
  rw [cut_len, List.filter_filter]
  apply List.filter_congr
  intro j hj
  rw [cut_pars hpg, cut_kinds hpg]
  by_cases h : j = g
  · subst h; simp
  · simp [h, Bool.and_comm]
theorem filter_ne_erase {xs : List Nat} (h : xs.Nodup) {g : Nat} : xs.filter (· != g) = xs.erase g := by
  rw [List.Nodup.erase_eq_filter h]
theorem under_nodup {t : TreeA} {c : Str → Bool} {i : Nat} : (t.under c i).Nodup := List.Pairwise.filter _ List.nodup_range
theorem filter_ne_self {xs : List Nat} {g : Nat} (h : g ∉ xs) : xs.filter (· != g) = xs := by
  rw [List.filter_eq_self]
  intro a ha
  simp
  rintro rfl
  exact h ha
theorem Wf.cut {t : TreeA} (W : Wf t) {p g : Nat} {gn : NodeA} (hg : t.rows[g]? = some gn) (hp : gn.par = some p) : Wf (t.cut p g gn.kind) := by
  have hpl := W.lt g gn hg p hp
  have hpg : p ≠ g := by omega
  have hparg : t.pars g = some p := by rw [pars_of hg, hp]
  have hkg : t.kinds g = gn.kind := kinds_of hg
  have get : ∀ (i : Nat) (q : NodeA), (t.cut p g gn.kind).rows[i]? = some q → ∃ q0, t.rows[i]? = some q0 ∧ q = (if i = g then q0.loose else if i = p then q0.del gn.kind g else q0) ∧ q.kind = q0.kind ∧ q.name = q0.name ∧ q.val = q0.val ∧ q.loc = q0.loc ∧ q.par = if i = g then none else q0.par := by
    intro i q h
    rw [cut_get hpg] at h
    obtain ⟨q0, h1, h2⟩ := Option.map_eq_some_iff.mp h
    obtain ⟨a, b, c, d, e⟩ := cut_node p g gn.kind i q0
    rw [h2] at a b c d e
    exact ⟨q0, h1, h2.symm, a, b, c, d, e⟩
  have par' : ∀ (i : Nat) (q : NodeA), (t.cut p g gn.kind).rows[i]? = some q → ∀ k, q.par = some k → ∃ q0, t.rows[i]? = some q0 ∧ q.kind = q0.kind ∧ q0.par = some k := by
    intro i q h k e
    obtain ⟨q0, h1, _, hk, _, _, _, hpar⟩ := get i q h
    rw [hpar] at e
    by_cases hi : i = g
    · rw [if_pos hi] at e; cases e
    · rw [if_neg hi] at e; exact ⟨q0, h1, hk, e⟩
  have memg : ∀ c i, g ∈ t.under c i → i = p ∧ c gn.kind = true := by
    intro c i h
    obtain ⟨_, h2, h3⟩ := mem_under.mp h
    rw [hparg] at h2
    rw [hkg] at h3
    exact ⟨(Option.some.inj h2).symm, h3⟩
  have lists : ∀ (i : Nat) (q q0 : NodeA), t.rows[i]? = some q0 → q = (if i = g then q0.loose else if i = p then q0.del gn.kind g else q0) → q.ch = (t.under (fun k => !beside k) i).filter (· != g) ∧ q.at' = (t.under isAt i).filter (· != g) ∧ q.ns = (t.under isNs i).filter (· != g) := by
    intro i q q0 h0 hq
    have c1 := W.ch i q0 h0
    have c2 := W.at' i q0 h0
    have c3 := W.ns i q0 h0
    by_cases hi : i = g
    · have no : ∀ c, g ∉ t.under c i := fun c h => by have := (memg c i h).1; omega
      rw [if_pos hi] at hq
      subst hq
      rw [filter_ne_self (no _), filter_ne_self (no _), filter_ne_self (no _)]
      exact ⟨c1, c2, c3⟩
    · rw [if_neg hi] at hq
      by_cases hip : i = p
      · rw [if_pos hip] at hq
        subst hq
        unfold NodeA.del
        by_cases e1 : gn.kind = "attribute"
        · rw [if_pos e1, filter_ne_self (fun h => absurd (memg _ i h).2 (by rw [e1]; decide)), filter_ne_erase under_nodup, filter_ne_self (fun h => absurd (memg _ i h).2 (by rw [e1]; decide))]
          exact ⟨c1, by show q0.at'.erase g = _; rw [c2], c3⟩
        · rw [if_neg e1]
          by_cases e2 : gn.kind = "namespace"
          · rw [if_pos e2, filter_ne_self (fun h => absurd (memg _ i h).2 (by rw [e2]; decide)), filter_ne_self (fun h => absurd (memg _ i h).2 (by rw [e2]; decide)), filter_ne_erase under_nodup]
            exact ⟨c1, c2, by show q0.ns.erase g = _; rw [c3]⟩
          · rw [if_neg e2, filter_ne_erase under_nodup, filter_ne_self (fun h => e1 (eq_of_beq (memg _ i h).2)), filter_ne_self (fun h => e2 (eq_of_beq (memg _ i h).2))]
            exact ⟨by show q0.ch.erase g = _; rw [c1], c2, c3⟩
      · rw [if_neg hip] at hq
        subst hq
        have no : ∀ c, g ∉ t.under c i := fun c h => hip (memg c i h).1
        rw [filter_ne_self (no _), filter_ne_self (no _), filter_ne_self (no _)]
        exact ⟨c1, c2, c3⟩
  refine ⟨by rw [cut_len]; exact W.size, ?_, ?_, ?_, ?_, ?_, ?_, ?_, ?_, ?_, ?_⟩
  · intro i q h k e
    obtain ⟨q0, h1, _, h2⟩ := par' i q h k e
    exact W.lt i q0 h1 k h2
  · intro i q h k e hb
    obtain ⟨q0, h1, hk, h2⟩ := par' i q h k e
    rw [cut_kinds hpg]
    exact W.kid i q0 h1 k h2 (hk ▸ hb)
  · intro i q h k e hb
    obtain ⟨q0, h1, hk, h2⟩ := par' i q h k e
    rw [cut_kinds hpg]
    exact W.own i q0 h1 k h2 (hk ▸ hb)
  · intro i q h
    obtain ⟨q0, h1, _, hk, _⟩ := get i q h
    rw [hk]; exact W.six i q0 h1
  · intro i q h e
    obtain ⟨q0, h1, _, hk, _, _, _, hpar⟩ := get i q h
    rw [hpar]
    split
    · rfl
    · exact W.root i q0 h1 (hk ▸ e)
  · intro i q h
    obtain ⟨q0, h1, hq, _⟩ := get i q h
    rw [cut_under hpg]; exact (lists i q q0 h1 hq).1
  · intro i q h
    obtain ⟨q0, h1, hq, _⟩ := get i q h
    rw [cut_under hpg]; exact (lists i q q0 h1 hq).2.1
  · intro i q h
    obtain ⟨q0, h1, hq, _⟩ := get i q h
    rw [cut_under hpg]; exact (lists i q q0 h1 hq).2.2
  · intro i q h e
    obtain ⟨q0, h1, _, hk, hn, hv, _, _⟩ := get i q h
    rw [hn, hv]; exact W.nsn i q0 h1 (hk ▸ e)
  · intro i q h e
    obtain ⟨q0, h1, _, hk, _, _, hl, _⟩ := get i q h
    rw [hl]; exact W.atn i q0 h1 (hk ▸ e)
theorem Chain.cut {f f' : Nat → Option Nat} {g : Nat} (hg : f' g = none) (ho : ∀ k, k ≠ g → f' k = f k) {o : Option Nat} {as : List Nat} (h : Chain f o as) :
    (g ∉ as → Chain f' o as) ∧ (g ∈ as → ∃ a1 a2, as = a1 ++ g :: a2 ∧ Chain f (f g) a2 ∧ Chain f' o (a1 ++ [g])) := by
  induction h with
  | nil => exact ⟨fun _ => .nil, fun h => (by cases h)⟩
  | @cons p as hC ih =>
    constructor
    · intro hn
      simp only [List.mem_cons, not_or] at hn
      refine .cons ?_
      rw [ho p (fun e => hn.1 e.symm)]
      exact ih.1 hn.2
    · intro hm
      by_cases e : p = g
      · subst e
        exact ⟨[], as, rfl, hC, .cons (by rw [hg]; exact .nil)⟩
      · have hm' : g ∈ as := by
          rcases List.mem_cons.mp hm with h1 | h1
          · exact absurd h1.symm e
          · exact h1
        obtain ⟨a1, a2, h1, h2, h3⟩ := ih.2 hm'
        refine ⟨p :: a1, a2, by rw [h1]; rfl, h2, ?_⟩
        refine .cons ?_
        rw [ho p e]
        exact h3
theorem WayIs.cut {t : TreeA} {p g : Nat} {k : Str} (hpg : p ≠ g) {i : Nat} {w wg : List Nat} (h : WayIs t i w) (hgw : WayIs t g wg) : WayIs (t.cut p g k) i (if g ∈ w then w.drop (wg.length - 1) else w) := by
  obtain ⟨as, hC, rfl⟩ := h
  obtain ⟨ag, hCg, rfl⟩ := hgw
  have key := hC.cut (f' := (t.cut p g k).pars) (g := g) (by rw [cut_pars hpg, if_pos rfl]) (fun j hj => by rw [cut_pars hpg, if_neg hj])
  have hdep : (ag.reverse ++ [g]).length - 1 = ag.length := by simp
  rw [hdep]
  by_cases hi : i = g
  · subst hi
    rw [if_pos (by simp)]
    have e := hC.func hCg
    subst e
    refine ⟨[], by rw [cut_pars hpg, if_pos rfl]; exact .nil, ?_⟩
    rw [List.drop_append_of_le_length (by simp), List.drop_of_length_le (by simp)]
    rfl
  · have hpi : (t.cut p g k).pars i = t.pars i := by rw [cut_pars hpg, if_neg hi]
    by_cases hm : g ∈ as
    · rw [if_pos (by simp [hm])]
      obtain ⟨a1, a2, h1, h2, h3⟩ := key.2 hm
      have e := h2.func hCg
      subst e
      refine ⟨a1 ++ [g], by rw [hpi]; exact h3, ?_⟩
      rw [h1]
      simp only [List.reverse_append, List.reverse_cons, List.append_assoc, List.reverse_nil, List.nil_append]
      rw [List.drop_append_of_le_length (by simp), List.drop_of_length_le (by simp)]
      simp
    · rw [if_neg (by simp [hm]; exact fun e => hi e.symm)]
      exact ⟨as, by rw [hpi]; exact key.1 hm, rfl⟩
theorem qs_split {qs : List RowA} {i : Nat} {r : RowA} (hi : qs[i]? = some r) : ∃ rest, (qsLed qs).Perm (rowLed r ++ rest) ∧ ∀ r', (qsLed (qs.set i r')).Perm (rowLed r' ++ rest) := by
  have hlen : i < qs.length := (List.getElem?_eq_some_iff.mp hi).1
  have e : qs = qs.take i ++ r :: qs.drop (i + 1) := by
    have : qs[i] = r := (List.getElem?_eq_some_iff.mp hi).2
    rw [← this, List.getElem_cons_drop, List.take_append_drop]
  have key : ∀ x : RowA, (qsLed (qs.take i ++ x :: qs.drop (i + 1))).Perm (rowLed x ++ (qsLed (qs.take i) ++ qsLed (qs.drop (i + 1)))) := by
    intro x
    rw [qsLed, List.flatMap_append, List.flatMap_cons]
    exact List.perm_append_comm_assoc _ _ _
  refine ⟨qsLed (qs.take i) ++ qsLed (qs.drop (i + 1)), ?_, fun r' => ?_⟩
  · have := key r
    rw [← e] at this
    exact this
  · have := key r'
    rw [show qs.take i ++ r' :: qs.drop (i + 1) = qs.set i r' from by rw [List.set_eq_take_append_cons_drop, if_pos hlen]] at this
    exact this
theorem pull_row {T B R M l : Led} (h : B.Perm (R ++ M)) : (T ++ (B ++ l)).Perm (R ++ (T ++ (M ++ l))) := by
  refine .trans (List.Perm.append_left _ (h.append_right l)) ?_
  rw [List.append_assoc]
  exact List.perm_append_comm_assoc _ _ _
theorem pull_perm {F R X X' : Led} (h : X.Perm (R ++ X')) : (F ++ X).Perm (R ++ (F ++ X')) := (h.append_left F).trans (List.perm_append_comm_assoc _ _ _)
theorem lst_mem {t : TreeA} (W : Wf t) {g p : Nat} {gn pn : NodeA} (hg : t.rows[g]? = some gn) (hp : gn.par = some p) (hpn : t.rows[p]? = some pn) : g ∈ pn.lst gn.kind := by
  have hl := (List.getElem?_eq_some_iff.mp hg).1
  have h1 : t.pars g = some p := by rw [pars_of hg, hp]
  have h2 : t.kinds g = gn.kind := kinds_of hg
  unfold NodeA.lst
  by_cases e1 : gn.kind = "attribute"
  · rw [if_pos e1, W.at' p pn hpn]
    exact mem_under.mpr ⟨hl, h1, by rw [h2, e1]; decide⟩
  · rw [if_neg e1]
    by_cases e2 : gn.kind = "namespace"
    · rw [if_pos e2, W.ns p pn hpn]
      exact mem_under.mpr ⟨hl, h1, by rw [h2, e2]; decide⟩
    · rw [if_neg e2, W.ch p pn hpn]
      refine mem_under.mpr ⟨hl, h1, ?_⟩
      rw [h2, beside_eq]
      unfold isAt isNs
      simp [e1, e2]
noncomputable def CutTo (qs : List RowA) (g dep j : Nat) (qs' : List RowA) : Prop := qs'.length = qs.length ∧ ∀ (i : Nat) (r' : RowA), qs'[i]? = some r' → ∃ r, qs[i]? = some r ∧ r'.q = r.q ∧ r'.kind = r.kind ∧ r'.way = if i < j ∧ g ∈ r.way then r.way.drop dep else r.way
theorem CutTo.kvs {qs qs' : List RowA} {g dep j : Nat} (h : CutTo qs g dep j qs') : kvs qs' = kvs qs := by
  apply List.ext_getElem?
  intro i
  unfold Mine.kvs
  rw [List.getElem?_mapIdx, List.getElem?_mapIdx]
  cases e : qs'[i]? with
  | none =>
    rw [List.getElem?_eq_none (by have := List.getElem?_eq_none_iff.mp e; rw [← h.1]; exact this)]
  | some r' =>
    obtain ⟨r, h1, h2, _⟩ := h.2 i r' e
    rw [h1]
    simp [h2]
theorem CutTo.rows {t : TreeA} {qs qs' : List RowA} {g p dep : Nat} {k : Str} {rg : RowA} (hpg : p ≠ g) (R : RowsOK t qs) (hrg : qs[g]? = some rg) (hd : dep = rg.way.length - 1) (h : CutTo qs g dep qs.length qs') : RowsOK (t.cut p g k) qs' := by
  refine ⟨by rw [cut_len, h.1]; exact R.len, fun i r' hr => ?_⟩
  obtain ⟨r, h1, h2, h3, h4⟩ := h.2 i r' hr
  obtain ⟨k1, w1⟩ := R.row i r h1
  have hi : i < qs.length := (List.getElem?_eq_some_iff.mp h1).1
  refine ⟨by rw [cut_kinds hpg, h3]; exact k1, ?_⟩
  have := w1.cut (k := k) hpg (R.row g rg hrg).2
  rw [h4, hd]
  by_cases hm : g ∈ r.way
  · rw [if_pos hm] at this
    rw [if_pos ⟨hi, hm⟩]; exact this
  · rw [if_neg hm] at this
    rw [if_neg (fun q => hm q.2)]; exact this
section
variable {Z : Amb} {A : Around} {l : Led} {X : Value → Shared → Prop}
noncomputable abbrev longF (qs : List RowA) (o : Nat) : Bool := match qs[o]? with
  | some r => decide (1 < r.way.length)
  | none => false
theorem loosened_ok (P : PX Z) {so d : Addr} {a b : Int} {t : TreeA} {qs : List RowA} {ep : Nat} {Q : AV → Led → Prop} (hb0 : 0 ≤ b) (hb : b < M31) (W : Wf t) (R : RowsOK t qs) (hr : Room A 10)
    (h : ∀ (a' b' : Int) (t' : TreeA) (qs' : List RowA), 0 ≤ b' → b' < M31 → t'.x = t.x → t'.rows.length = t.rows.length → Wf t' → RowsOK t' qs' → Q .none ((so, .list [.int a', .int b']) :: (d, .dictI (kvs qs') ep) :: (treeLed P t' ++ (qsLed qs' ++ l)))) :
    CD Z A (.ref (P.fa 27)) [.ref so, .ref t.x, .ref d] ((so, .list [.int a, .int b]) :: (d, .dictI (kvs qs) ep) :: (treeLed P t ++ (qsLed qs ++ l))) Q X := by
  have hsz := W.size
  have hqn := R.len
  refine cd_fnC (P.fdef 27 (by decide)).1 (m := [("source", some (.ref so)), ("tree", some (.ref t.x)), ("node", none), ("some", none), ("gone", none), ("depth", none)]) (names := [("source", .local), ("tree", .local), ("rows", .cell), ("node", .local), ("some", .local), ("gone", .local), ("depth", .local), ("_law_one", .globalImplicit), ("remove", .globalImplicit), ("len", .globalImplicit)]) (ps := ["source", "tree", "rows"]) (ks := [false, false, true]) (others := ["node", "some", "gone", "depth"]) (cx := [("rows", some (.ref d))]) (cxk := ["rows"]) rfl rfl rfl (fun doc pm cdv ct => bind3 fun v0 v1 v2 => rfl) (by decide) (nodupS (ks := ["source", "tree", "node", "some", "gone", "depth"]) (by decide)) (by intro p hp; simp only [List.mem_cons, List.not_mem_nil, or_false] at hp; rcases hp with rfl <;> rfl) rfl (k := 9) hr ?_
  intro env L A'
  refine cells_all1 fun c_rows (hE : EnvIs env L _ [("rows", c_rows)]) hr' => (?_ : SV Z A' env _ ((L, .frame [("source", some (.ref so)), ("tree", some (.ref t.x)), ("node", none), ("some", none), ("gone", none), ("depth", none)]) :: (c_rows, .cell (some (.ref d))) :: (so, .list [.int a, .int b]) :: (d, .dictI (kvs qs) ep) :: (treeLed P t ++ (qsLed qs ++ l))) _ _)
  refine s_cons ?_
  have hwl : ∀ (i : Nat) (r : RowA), qs[i]? = some r → r.way.length ≤ 50 := by
    intro i r hi
    have h1 := (R.row i r hi).2.len W
    have h2 := (List.getElem?_eq_some_iff.mp hi).1
    omega
  refine s_compF (m := [(".0", none), ("node", none)]) (names' := [("node", .local), ("len", .globalImplicit), ("rows", .cell)]) (cells' := [("rows", c_rows)]) (ck := ["rows"]) (ck' := ["rows"]) hE (swaps_comp hE (by lcg_sub) rfl (by decide)) rfl rfl (by simp) (by decide) ?_
  nest_room
  have hin : In (qsLed qs) (treeLed P t ++ (qsLed qs ++ l)) := fun p hp => List.mem_append_right _ (In.app p hp)
  generalize hLL : treeLed P t ++ (qsLed qs ++ l) = LL at hin ⊢
  refine iter_dict (by lcg_sub) fun it => ⟨fun l3 hs3 => self_dict (hs3.subset (.head _)), fun C D cenv hEc => ?_⟩
  refine inv_comp21 (fun j vo => qs.length - j) (fun j vo => j ≤ qs.length) (fun j vo => (C, .frame [(".0", none), ("node", vo)]) :: (D, .list (inl ((List.range j).filter (longF qs)))) :: (it, .kiter d j (kvs qs).length ep) :: (L, .frame [("source", some (.ref so)), ("tree", some (.ref t.x)), ("node", none), ("some", none), ("gone", none), ("depth", none)]) :: (c_rows, .cell (some (.ref d))) :: (so, .list [.int a, .int b]) :: (d, .dictI (kvs qs) ep) :: LL) 0 none Sb.refl (Nat.zero_le _) fun J (hNj : ∀ j vo, j ≤ qs.length → J (qs.length - j) ((C, .frame [(".0", none), ("node", vo)]) :: (D, .list (inl ((List.range j).filter (longF qs)))) :: (it, .kiter d j (kvs qs).length ep) :: (L, .frame [("source", some (.ref so)), ("tree", some (.ref t.x)), ("node", none), ("some", none), ("gone", none), ("depth", none)]) :: (c_rows, .cell (some (.ref d))) :: (so, .list [.int a, .int b]) :: (d, .dictI (kvs qs) ep) :: LL)) j vo (hjl : j ≤ qs.length) => (?_ : TurnK Z _ _ ((C, .frame [(".0", none), ("node", vo)]) :: (D, .list (inl ((List.range j).filter (longF qs)))) :: (it, .kiter d j (kvs qs).length ep) :: (L, .frame [("source", some (.ref so)), ("tree", some (.ref t.x)), ("node", none), ("some", none), ("gone", none), ("depth", none)]) :: (c_rows, .cell (some (.ref d))) :: (so, .list [.int a, .int b]) :: (d, .dictI (kvs qs) ep) :: LL) _ _ _)
  by_cases hj : j < qs.length
  · right
    refine (fun o ho => ?_ : ∀ o, qs[j]? = some o → _) _ (List.getElem?_eq_getElem hj)
    have o1 := row_in1 hin ho
    have o2 := row_in2 hin ho
    have how := hwl j o ho
    have hfl : ((List.range j).filter (longF qs)).length ≤ j := by
      refine Nat.le_trans (List.length_filter_le _ _) ?_
      rw [List.length_range]; exact Nat.le_refl _
    have hstep : ∀ b, longF qs j = b → (List.range (j + 1)).filter (longF qs) = (List.range j).filter (longF qs) ++ if b = true then [j] else [] := by
      intro b hb
      rw [List.range_succ, List.filter_append, List.filter_cons, hb, List.filter_nil]
    have hval : longF qs j = decide (1 < o.way.length) := by unfold longF; rw [ho]
    refine ⟨.int j, _, next_dict (by krn_off) (by lcg_sub) (kvs_get ho), ?_⟩
    isplit
    refine ifs_one ?_
    refine t_cmp ?_
    refine rc_len (by assumption) (by assumption) (by lcg_sub) ?_
    refine r_sub ?_
    refine r_sub ?_
    nest_room
    tlg_ne
    refine i_dict (by lcg_sub) (kvAt_kvs ho) ?_
    refine r_int ?_
    refine i_list (by lcg_sub) (by decide) (by decide) rfl ?_
    refine b_len (by lcg_sub) (by first | exact len_map_le (len_map_le (by omega)) | exact len_map_le (by omega) | (simp only [List.length_map]; omega)) ?_
    refine r_int ?_
    refine c_gti ?_
    rw [show decide ((1 : Int) < ((inl o.way).length : Nat)) = decide (1 < o.way.length) by first | exact len_map_le (len_map_le (by omega)) | exact len_map_le (by omega) | (simp; omega)]
    refine ⟨fun e => ?_, fun e => ?_⟩
    · rw [e] at hval
      tlg_ne
      refine ⟨_, _, by krn_off, by first | exact len_map_le (len_map_le (by omega)) | exact len_map_le (by omega) | (simp only [List.length_map]; omega), qs.length - (j + 1), _, dec_lt hj, ?_, hNj (j + 1) (some (.int j)) hj⟩
      refine Sb.pick (by l_intsC) (Sb.pick (by (repeat (first | (with_reducible refine Pick.head' ?_) | (with_reducible apply Pick.tail))); refine congrArg AObj.list ?_; rw [hstep _ hval, if_pos rfl, inl_snoc]) ?_)
      tb_rel
    · rw [e] at hval
      refine ⟨qs.length - (j + 1), _, dec_lt hj, ?_, hNj (j + 1) (some (.int j)) hj⟩
      refine Sb.pick (by l_intsC) (Sb.pick (by (repeat (first | (with_reducible refine Pick.head' ?_) | (with_reducible apply Pick.tail))); refine congrArg AObj.list ?_; rw [hstep _ hval, if_neg (by decide), List.append_nil]) ?_)
      tb_rel
  left
  have hje : j = qs.length := Nat.le_antisymm hjl (Nat.le_of_not_lt hj)
  subst hje
  refine ⟨_, end_dict hr'.hh (by lcg_sub) (by lcg_sub) (by rw [kvs_len]; omega) (by lcg_off) (by simp), ?_⟩
  isplit
  refine ⟨_, _, by lcg_sub, by lcg_off, by simp, ?_⟩
  subst hLL
  refine t_cons ?_
  refine s_assign ?_
  refine r_callf (by assumption) 25 (by decide) (by assumption) (by lcg_sub) ?_ fN25
  refine a_cons ?_
  tlg_ne
  refine a_cons ?_
  refine r_binop ?_
  tlg_ne
  refine r_list ?_
  refine a_cons ?_
  refine r_none ?_
  refine a_nil ?_
  refine ⟨by simp, fun x1 => ?_⟩
  have hfl : ((List.range qs.length).filter (longF qs)).length ≤ 20 := by
    refine Nat.le_trans (List.length_filter_le _ _) ?_
    rw [List.length_range]; omega
  refine o_addl (xs := inl ((List.range qs.length).filter (longF qs))) (ys := [.none]) (by lcg_sub) (.head _) (by first | exact len_map_le (len_map_le (by omega)) | exact len_map_le (by omega) | (simp only [List.length_map]; omega)) (by simp) fun x2 => ?_
  refine a_nil ?_
  refine CL.blk1 (p := (so, .list [.int a, .int b])) (by tb_start) (one_ok P hb0 hb (xs := inl ((List.range qs.length).filter (longF qs)) ++ [.none]) (by simp) (by simp only [List.length_append, List.length_map]; simp; omega) (by lcg_sub) (hr'.le (by decide)) fun a1 b1 gv hgm hb01 hb1 => ⟨_, rfl, ?_⟩)
  rcases List.mem_append.mp hgm with hg | hg
  rotate_left
  · obtain rfl : gv = .none := by simpa using hg
    isplit
    refine t_cons ?_
    refine s_if ?_
    refine t_cmp ?_
    tlg_ne
    refine r_none ?_
    refine c_isnot rfl (br_f rfl ?_)
    refine s_nil ?_
    refine t_nil ?_
    exact ⟨_, by tb_rel, h a1 b1 t qs hb01 hb1 rfl rfl W R⟩
  obtain ⟨gi, hgi, rfl⟩ := List.mem_map.mp hg
  obtain ⟨g, hgf, rfl⟩ := List.mem_map.mp hgi
  obtain ⟨hg1, hg2⟩ := List.mem_filter.mp hgf
  have hgl : g < qs.length := List.mem_range.mp hg1
  refine (fun rg hrg => ?_ : ∀ rg, qs[g]? = some rg → _) _ (List.getElem?_eq_getElem hgl)
  refine (fun gn hgn => ?_ : ∀ gn, t.rows[g]? = some gn → _) _ (List.getElem?_eq_getElem (by omega))
  have hlong : 1 < rg.way.length := by
    unfold longF at hg2
    rw [hrg] at hg2
    exact of_decide_eq_true hg2
  obtain ⟨p, hp⟩ : ∃ p, gn.par = some p := by
    obtain ⟨as, hC, e⟩ := (R.row g rg hrg).2
    rw [pars_of hgn] at hC
    cases hpar : gn.par with
    | some p => exact ⟨p, rfl⟩
    | none =>
      rw [hpar] at hC
      cases hC
      rw [e] at hlong
      simp at hlong
  have hpl := W.lt g gn hgn p hp
  have hpg : p ≠ g := by omega
  refine (fun pn hpn => ?_ : ∀ pn, t.rows[p]? = some pn → _) _ (List.getElem?_eq_getElem (by omega))
  have Wc := W.cut hgn hp
  have Rc : ∀ qs', CutTo qs g (rg.way.length - 1) qs.length qs' → RowsOK (t.cut p g gn.kind) qs' := fun qs' hc => hc.rows hpg R hrg rfl
  have hcx : (t.cut p g gn.kind).x = t.x := rfl
  have hcl : (t.cut p g gn.kind).rows.length = t.rows.length := cut_len
  isplit
  refine t_cons ?_
  refine s_if ?_
  refine t_cmp ?_
  tlg_ne
  refine r_none ?_
  refine c_isnot rfl (br_t rfl ?_)
  refine s_cons ?_
  refine s_expr (by assumption) ?_
  refine r_callf (by assumption) 17 (by decide) (by assumption) (by lcg_sub) ?_ fN17
  refine a_cons ?_
  tlg_ne
  refine a_cons ?_
  tlg_ne
  refine a_nil ?_
  refine CL.blk (T := treeLed P t) (by tb_start) (remove_ok P W.good hgn hp hpn hpg (lst_mem W hgn hp hpn) (hr'.le (by decide)) ⟨treeLed P (t.cut p g gn.kind), rfl, ?_⟩)
  generalize t.cut p g gn.kind = tc at Wc hcx hcl Rc ⊢
  have g1 := row_in1 (l := treeLed P tc ++ (qsLed qs ++ l)) (fun q hq => List.mem_append_right _ (In.app q hq)) hrg
  have g2 := row_in2 (l := treeLed P tc ++ (qsLed qs ++ l)) (fun q hq => List.mem_append_right _ (In.app q hq)) hrg
  have hgw := hwl g rg hrg
  refine t_cons ?_
  refine s_assign ?_
  refine r_binop ?_
  refine rc_len (by assumption) (by assumption) (by lcg_sub) ?_
  refine r_sub ?_
  refine r_sub ?_
  nest_room
  tlg_ne
  refine i_dict (by lcg_sub) (kvAt_kvs hrg) ?_
  refine r_int ?_
  refine i_list (by lcg_sub) (by decide) (by decide) rfl ?_
  refine b_len (by lcg_sub) (by first | exact len_map_le (len_map_le (by omega)) | exact len_map_le (by omega) | (simp only [List.length_map]; omega)) ?_
  refine r_int ?_
  refine o_sub ?_
  rw [show (((inl rg.way).length : Nat) : Int) - 1 = ((rg.way.length - 1 : Nat) : Int) by first | exact len_map_le (len_map_le (by omega)) | exact len_map_le (by omega) | (simp; omega)]
  generalize hdep : rg.way.length - 1 = dep at Rc ⊢
  isplit
  refine t_cons ?_
  refine s_for ?_
  nest_room
  clear g1 g2
  refine iter_dict (by lcg_sub) fun it2 => ?_
  refine inv_sb32 (fun j qs' vo => qs.length - j) (fun j qs' vo => j ≤ qs.length) (fun j qs' vo => CutTo qs g dep j qs') (fun j qs' vo => (it2, .kiter d j (kvs qs).length ep) :: (L, .frame [("source", some (.ref so)), ("tree", some (.ref t.x)), ("node", vo), ("some", some (.ref D)), ("gone", some (.int g)), ("depth", some (.int dep))]) :: (c_rows, .cell (some (.ref d))) :: (so, .list [.int a1, .int b1]) :: (d, .dictI (kvs qs) ep) :: (treeLed P tc ++ (qsLed qs' ++ l))) 0 qs none (show Sb ((it2, .kiter d 0 (kvs qs).length ep) :: (L, .frame [("source", some (.ref so)), ("tree", some (.ref t.x)), ("node", none), ("some", some (.ref D)), ("gone", some (.int g)), ("depth", some (.int dep))]) :: (c_rows, .cell (some (.ref d))) :: (so, .list [.int a1, .int b1]) :: (d, .dictI (kvs qs) ep) :: (treeLed P tc ++ (qsLed qs ++ l))) _ from by tb_rel) (Nat.zero_le _) ⟨rfl, fun i r hr => ⟨r, hr, rfl, rfl, by simp⟩⟩ fun J (hNj : ∀ j qs' vo, j ≤ qs.length → CutTo qs g dep j qs' → J (qs.length - j) ((it2, .kiter d j (kvs qs).length ep) :: (L, .frame [("source", some (.ref so)), ("tree", some (.ref t.x)), ("node", vo), ("some", some (.ref D)), ("gone", some (.int g)), ("depth", some (.int dep))]) :: (c_rows, .cell (some (.ref d))) :: (so, .list [.int a1, .int b1]) :: (d, .dictI (kvs qs) ep) :: (treeLed P tc ++ (qsLed qs' ++ l)))) j qs' vo (hjl : j ≤ qs.length) (hCut : CutTo qs g dep j qs') => (?_ : TurnK Z _ _ ((it2, .kiter d j (kvs qs).length ep) :: (L, .frame [("source", some (.ref so)), ("tree", some (.ref t.x)), ("node", vo), ("some", some (.ref D)), ("gone", some (.int g)), ("depth", some (.int dep))]) :: (c_rows, .cell (some (.ref d))) :: (so, .list [.int a1, .int b1]) :: (d, .dictI (kvs qs) ep) :: (treeLed P tc ++ (qsLed qs' ++ l))) _ _ _)
  by_cases hj : j < qs.length
  · right
    refine (fun o ho => ?_ : ∀ o, qs[j]? = some o → _) _ (List.getElem?_eq_getElem hj)
    refine (fun o' ho' => ?_ : ∀ o', qs'[j]? = some o' → _) _ (List.getElem?_eq_getElem (by rw [hCut.1]; exact hj))
    obtain ⟨o0, w1, w2, w3, w4⟩ := hCut.2 j o' ho'
    rw [ho] at w1
    cases w1
    have hjj : ¬ (j < j ∧ g ∈ o.way) := fun q => absurd q.1 (Nat.lt_irrefl _)
    rw [if_neg hjj] at w4
    have how := hwl j o ho
    have hin' : In (qsLed qs') (treeLed P tc ++ (qsLed qs' ++ l)) := fun q hq => List.mem_append_right _ (In.app q hq)
    have o1 := row_in1 hin' ho'
    have o2 := row_in2 hin' ho'
    have hk : kvAt (kvs qs) j = some (.ref o'.q) := by rw [w2]; exact kvAt_kvs ho
    refine ⟨.int j, _, next_dict (by krn_off) (by lcg_sub) (kvs_get ho), ?_⟩
    isplit
    refine s_cons ?_
    refine s_if ?_
    refine t_cmp ?_
    tlg_ne
    refine r_sub ?_
    refine r_sub ?_
    nest_room
    tlg_ne
    refine i_dict (by lcg_sub) hk ?_
    refine r_int ?_
    refine i_list (by lcg_sub) (by decide) (by decide) rfl ?_
    refine c_inl (ns := nl o'.way) (by lcg_sub) ?_
    have hany : (nl o'.way).any (· == (g : Int)) = decide (g ∈ o.way) := by
      rw [w4]
      rw [Bool.eq_iff_iff, List.any_eq_true, decide_eq_true_iff]
      constructor
      · rintro ⟨x, hx, e⟩
        obtain ⟨y, hy, rfl⟩ := List.mem_map.mp hx
        have := eq_of_beq e
        have : y = g := by omega
        exact this ▸ hy
      · intro hm
        exact ⟨_, List.mem_map_of_mem hm, by simp⟩
    rw [hany]
    by_cases hm : g ∈ o.way
    · rw [decide_eq_true hm]
      refine br_t rfl ?_
      refine s_cons ?_
      refine s_setitem ?_
      refine r_slice ?_
      refine r_sub ?_
      refine r_sub ?_
      nest_room
      tlg_ne
      refine i_dict (by lcg_sub) hk ?_
      refine r_int ?_
      refine i_list (by lcg_sub) (by decide) (by decide) rfl ?_
      refine eo_some ?_
      tlg_ne
      refine eo_none ?_
      refine eo_none ?_
      refine ⟨_, _, _, _, _, rfl, by lcg_sub, rfl, rfl, rfl, by simp, by simp only [List.length_map]; rw [w4]; omega, fun sl => ?_⟩
      rw [pickA_from, inl_drop]
      refine r_sub ?_
      nest_room
      tlg_ne
      refine i_dict (by lcg_sub) hk ?_
      refine r_int ?_
      intro vo' vi' e5 e6
      obtain ⟨rest, s1, s2⟩ := qs_split ho'
      refine ST.sub (l2 := (o'.q, .list [.str o'.kind, .ref o'.w]) :: (o'.w, .list (inl o'.way)) :: (sl, .list (inl (o'.way.drop dep))) :: (it2, .kiter d (j + 1) (kvs qs).length ep) :: (L, .frame [("source", some (.ref so)), ("tree", some (.ref t.x)), ("node", some (.int j)), ("some", some (.ref D)), ("gone", some (.int g)), ("depth", some (.int dep))]) :: (c_rows, .cell (some (.ref d))) :: (so, .list [.int a1, .int b1]) :: (d, .dictI (kvs qs) ep) :: (treeLed P tc ++ (rest ++ l))) (Sb.ofPerm (pull_perm (R := rowLed o') (F := [(sl, .list (inl (o'.way.drop dep))), (it2, .kiter d (j + 1) (kvs qs).length ep), (L, .frame [("source", some (.ref so)), ("tree", some (.ref t.x)), ("node", some (.int j)), ("some", some (.ref D)), ("gone", some (.int g)), ("depth", some (.int dep))]), (c_rows, .cell (some (.ref d))), (so, .list [.int a1, .int b1]), (d, .dictI (kvs qs) ep)]) (pull_row (T := treeLed P tc) (l := l) s1)).symm) ?_
      refine si_list (xs := [.str o'.kind, .ref o'.w]) (k := 1) (by simp) (by simp) (by krn_off) ?_ vo' vi' e5 e6
      refine t_nil ?_
      refine t_nil ?_
      refine ⟨qs.length - (j + 1), _, dec_lt hj, Sb.trans (.ofPerm (pull_perm (R := rowLed ⟨o'.q, sl, o'.kind, o'.way.drop dep⟩) (F := [(it2, .kiter d (j + 1) (kvs qs).length ep), (L, .frame [("source", some (.ref so)), ("tree", some (.ref t.x)), ("node", some (.int j)), ("some", some (.ref D)), ("gone", some (.int g)), ("depth", some (.int dep))]), (c_rows, .cell (some (.ref d))), (so, .list [.int a1, .int b1]), (d, .dictI (kvs qs) ep)]) (pull_row (T := treeLed P tc) (l := l) (s2 ⟨o'.q, sl, o'.kind, o'.way.drop dep⟩)))) (.cons (.drop Sb.refl)), hNj (j + 1) (qs'.set j ⟨o'.q, sl, o'.kind, o'.way.drop dep⟩) (some (.int j)) hj ⟨by rw [List.length_set]; exact hCut.1, fun i r' hr' => ?_⟩⟩
      rw [List.getElem?_set] at hr'
      by_cases hij : j = i
      · subst hij
        rw [if_pos rfl, if_pos (by rw [hCut.1]; exact hj)] at hr'
        cases hr'
        exact ⟨o, ho, w2, w3, by show o'.way.drop dep = _; rw [if_pos ⟨Nat.lt_succ_self _, hm⟩, w4]⟩
      · rw [if_neg hij] at hr'
        obtain ⟨r, q1, q2, q3, q4⟩ := hCut.2 i r' hr'
        refine ⟨r, q1, q2, q3, ?_⟩
        rw [q4]
        by_cases h5 : g ∈ r.way
        · have : (i < j ∧ g ∈ r.way) ↔ (i < j + 1 ∧ g ∈ r.way) := by constructor <;> (rintro ⟨x, y⟩; exact ⟨by omega, y⟩)
          simp only [this]
        · simp [h5]
    · rw [decide_eq_false hm]
      refine br_f rfl ?_
      refine s_nil ?_
      refine t_nil ?_
      refine ⟨qs.length - (j + 1), _, dec_lt hj, Sb.refl, hNj (j + 1) qs' (some (.int j)) hj ⟨hCut.1, fun i r' hr' => ?_⟩⟩
      obtain ⟨r, q1, q2, q3, q4⟩ := hCut.2 i r' hr'
      refine ⟨r, q1, q2, q3, ?_⟩
      rw [q4]
      by_cases hij : i = j
      · subst hij
        rw [ho] at q1
        cases q1
        simp [hm]
      · by_cases h5 : g ∈ r.way
        · have : (i < j ∧ g ∈ r.way) ↔ (i < j + 1 ∧ g ∈ r.way) := by constructor <;> (rintro ⟨x, y⟩; exact ⟨by omega, y⟩)
          simp only [this]
        · simp [h5]
  · left
    have hje : j = qs.length := Nat.le_antisymm hjl (Nat.le_of_not_lt hj)
    subst hje
    refine ⟨_, end_dict hr'.hh (by lcg_sub) (by lcg_sub) (by rw [kvs_len]; omega) (by lcg_off) (by simp), ?_⟩
    refine t_nil ?_
    refine t_nil ?_
    refine ⟨_, ?_, h a1 b1 tc qs' hb01 hb1 hcx hcl Wc (Rc qs' hCut)⟩
    rw [hCut.kvs]
    tb_rel
end
noncomputable def wayA (qs : List RowA) (i : Nat) : Addr := (qs[i]?.map (·.w)).getD 0
noncomputable def wayL (qs : List RowA) (i : Nat) : List Nat := (qs[i]?.map (·.way)).getD []
noncomputable def kidF (qs : List RowA) (i : Nat) : Bool := (qs[i]?.map (fun r => isKid r.kind)).getD false
theorem wayA_of {qs : List RowA} {i : Nat} {r : RowA} (h : qs[i]? = some r) : wayA qs i = r.w := by unfold wayA; rw [h]; rfl
theorem wayL_of {qs : List RowA} {i : Nat} {r : RowA} (h : qs[i]? = some r) : wayL qs i = r.way := by unfold wayL; rw [h]; rfl
theorem kidF_of {qs : List RowA} {i : Nat} {r : RowA} (h : qs[i]? = some r) : kidF qs i = isKid r.kind := by unfold kidF; rw [h]; rfl
noncomputable def kidsTo (qs : List RowA) (wl : List Nat) (j : Nat) : List Nat := (List.range j).filter fun i => (!decide (wl = [])) && kidF qs i
noncomputable abbrev refs (qs : List RowA) (is : List Nat) : List AV := is.map fun i => AV.ref (wayA qs i)
theorem refs_snoc {qs : List RowA} {is : List Nat} {k : Nat} : refs qs (is ++ [k]) = refs qs is ++ [.ref (wayA qs k)] := by simp
theorem wayA_dummy : True := trivial
noncomputable def keepB (b : Bool) (wl one : List Nat) : Bool := match wl, one with
  | y :: _, x :: _ => decide (x = y) && (ltI (nl wl) (nl one) && (b || !decide (one.take wl.length = wl)))
  | _, _ => false
noncomputable def keepA (wl one : List Nat) : Bool := match wl, one with
  | y :: _, x :: _ => decide (x = y) && (ltI (nl one) (nl wl) && !decide (wl.take one.length = one))
  | _, _ => false
theorem inl_getLast {xs : List Nat} (h : xs ≠ []) : (inl xs)[((-1 : Int) + (inl xs).length).toNat]? = some (.int ((xs.getLastD 0 : Nat) : Int)) := by
  have hpos : 1 ≤ xs.length := List.length_pos_iff.mpr h
  have e : ((-1 : Int) + (inl xs).length).toNat = xs.length - 1 := by first | exact len_map_le (len_map_le (by omega)) | exact len_map_le (by omega) | (simp; omega)
  rw [e, List.getElem?_map, List.getElem?_map]
  have h2 : xs[xs.length - 1]? = some (xs.getLastD 0) := by
    rw [List.getLastD_eq_getLast?, List.getLast?_eq_getElem?]
    rw [List.getElem?_eq_getElem (by omega)]
    rfl
  rw [h2]; rfl
section
variable {Z : Amb} {A : Around} {l : Led} {X : Value → Shared → Prop}
theorem behind_ok (P : PX Z) {d : Addr} {qs : List RowA} {ep i : Nat} {r : RowA} {out : List Nat} {Q : AV → Led → Prop} (hd : (d, .dictI (kvs qs) ep) ∈ l) (hq : In (qsLed qs) l) (hi : qs[i]? = some r) (hz : qs.length ≤ 50) (hwz : ∀ q ∈ qs, q.way.length ≤ 50 ∧ q.way ≠ []) (hnd : ∀ (i j : Nat) (a b : RowA), qs[i]? = some a → qs[j]? = some b → a.way = b.way → i = j) (hr : Room A 6)
    (H : ∀ q : List Nat, q.Perm (List.range ((kidsTo qs (if beside r.kind then r.way.dropLast else r.way) qs.length).filter fun k => (keepB (beside r.kind) (if beside r.kind then r.way.dropLast else r.way)) (wayL qs k)).length) → (∀ i j, i < j → j < ((kidsTo qs (if beside r.kind then r.way.dropLast else r.way) qs.length).filter fun k => (keepB (beside r.kind) (if beside r.kind then r.way.dropLast else r.way)) (wayL qs k)).length → ltI (nl (wayL qs (((kidsTo qs (if beside r.kind then r.way.dropLast else r.way) qs.length).filter fun k => (keepB (beside r.kind) (if beside r.kind then r.way.dropLast else r.way)) (wayL qs k)).getD (q.getD i 0) 0))) (nl (wayL qs (((kidsTo qs (if beside r.kind then r.way.dropLast else r.way) qs.length).filter fun k => (keepB (beside r.kind) (if beside r.kind then r.way.dropLast else r.way)) (wayL qs k)).getD (q.getD j 0) 0))) = true) → q.map (fun i => (wayL qs (((kidsTo qs (if beside r.kind then r.way.dropLast else r.way) qs.length).filter fun k => (keepB (beside r.kind) (if beside r.kind then r.way.dropLast else r.way)) (wayL qs k)).getD i 0)).getLastD 0) = out)
    (h : ∀ b, Q (.ref b) ((b, .list (inl out)) :: l)) : CD Z A (.ref (P.fa 30)) [.ref d, .int i] l Q X := by
  have r1 := row_in1 hq hi
  have r2 := row_in2 hq hi
  have hrw := hwz r (List.mem_of_getElem? hi)
  refine cd_fnC (P.fdef 30 (by decide)).1 (m := [("node", some (.int i)), ("some", none), ("found", none)]) (names := [("rows", .cell), ("node", .local), ("way", .cell), ("is_within", .cell), ("some", .local), ("found", .local), ("_law_place", .globalImplicit), ("sorted", .globalImplicit)]) (ps := ["rows", "node"]) (ks := [true, false]) (others := ["some", "found"]) (cx := [("is_within", none), ("way", none), ("rows", some (.ref d))]) (cxk := ["is_within", "way", "rows"]) rfl rfl rfl (fun doc pm cdv ct => bind2 fun v0 v1 => rfl) (by decide) (nodupS (ks := ["node", "some", "found"]) (by decide)) (by intro p hp; simp only [List.mem_cons, List.not_mem_nil, or_false] at hp; rcases hp with rfl | rfl | rfl <;> rfl) rfl (k := 5) hr ?_
  intro env L A'
  refine cells_all3 fun c_is_within c_way c_rows (hE : EnvIs env L _ [("is_within", c_is_within), ("way", c_way), ("rows", c_rows)]) hr' => (?_ : SV Z A' env _ ((L, .frame [("node", some (.int i)), ("some", none), ("found", none)]) :: (c_is_within, .cell (none)) :: (c_way, .cell (none)) :: (c_rows, .cell (some (.ref d))) :: l) _ _)
  refine s_cons ?_
  have key : ∀ (w : Addr) (b : Bool) (wl : List Nat) (LL : Led), (∀ q : List Nat, q.Perm (List.range ((kidsTo qs wl qs.length).filter fun k => (keepB b wl) (wayL qs k)).length) → (∀ i j, i < j → j < ((kidsTo qs wl qs.length).filter fun k => (keepB b wl) (wayL qs k)).length → ltI (nl (wayL qs (((kidsTo qs wl qs.length).filter fun k => (keepB b wl) (wayL qs k)).getD (q.getD i 0) 0))) (nl (wayL qs (((kidsTo qs wl qs.length).filter fun k => (keepB b wl) (wayL qs k)).getD (q.getD j 0) 0))) = true) → q.map (fun i => (wayL qs (((kidsTo qs wl qs.length).filter fun k => (keepB b wl) (wayL qs k)).getD i 0)).getLastD 0) = out) → wl.length ≤ 50 → (w, .list (inl wl)) ∈ LL → In (qsLed qs) LL → (d, .dictI (kvs qs) ep) ∈ LL → Sb l LL → SV Z A' env ((fdB (stAt 30)).drop 1) ((L, .frame [("node", some (.int i)), ("some", none), ("found", none)]) :: (c_is_within, .cell (some (.bool b))) :: (c_way, .cell (some (.ref w))) :: (c_rows, .cell (some (.ref d))) :: LL) (fun fl => Up (Q (retOf fl))) noX := by
    clear H
    intro w b wl LL H hwl hw hin hdl hsb
    refine s_cons ?_
    refine s_compF (m := [(".0", none), ("other", none)]) (names' := [("other", .local), ("_law_is_child", .globalImplicit), ("rows", .cell), ("way", .cell)]) (cells' := [("way", c_way), ("rows", c_rows)]) (ck := ["is_within", "way", "rows"]) (ck' := ["way", "rows"]) hE (swaps_comp hE (by lcg_sub) rfl (by decide)) rfl rfl (by simp) (by decide) ?_
    nest_room
    refine iter_dict (by lcg_sub) fun it => ⟨fun l3 hs3 => self_dict (hs3.subset (.head _)), fun C D cenv hEc => ?_⟩
    refine inv_comp21 (fun j vo => qs.length - j) (fun j vo => j ≤ qs.length) (fun j vo => (C, .frame [(".0", none), ("other", vo)]) :: (D, .list (refs qs (kidsTo qs wl j))) :: (it, .kiter d j (kvs qs).length ep) :: (L, .frame [("node", some (.int i)), ("some", none), ("found", none)]) :: (c_is_within, .cell (some (.bool b))) :: (c_way, .cell (some (.ref w))) :: (c_rows, .cell (some (.ref d))) :: LL) 0 none Sb.refl (Nat.zero_le _) fun J (hNj : ∀ j vo, j ≤ qs.length → J (qs.length - j) ((C, .frame [(".0", none), ("other", vo)]) :: (D, .list (refs qs (kidsTo qs wl j))) :: (it, .kiter d j (kvs qs).length ep) :: (L, .frame [("node", some (.int i)), ("some", none), ("found", none)]) :: (c_is_within, .cell (some (.bool b))) :: (c_way, .cell (some (.ref w))) :: (c_rows, .cell (some (.ref d))) :: LL)) j vo (hjl : j ≤ qs.length) => (?_ : TurnK Z _ _ ((C, .frame [(".0", none), ("other", vo)]) :: (D, .list (refs qs (kidsTo qs wl j))) :: (it, .kiter d j (kvs qs).length ep) :: (L, .frame [("node", some (.int i)), ("some", none), ("found", none)]) :: (c_is_within, .cell (some (.bool b))) :: (c_way, .cell (some (.ref w))) :: (c_rows, .cell (some (.ref d))) :: LL) _ _ _)
    have hkl : ∀ j, (kidsTo qs wl j).length ≤ j := fun j => by
      unfold kidsTo
      refine Nat.le_trans (List.length_filter_le _ _) ?_
      rw [List.length_range]; exact Nat.le_refl _
    by_cases hj : j < qs.length
    · right
      refine (fun o ho => ?_ : ∀ o, qs[j]? = some o → _) _ (List.getElem?_eq_getElem hj)
      have o1 := row_in1 hin ho
      have o2 := row_in2 hin ho
      have hkj := hkl j
      have hstep : ∀ c, ((!decide (wl = [])) && isKid o.kind) = c → kidsTo qs wl (j + 1) = kidsTo qs wl j ++ if c = true then [j] else [] := by
        intro c hc
        unfold kidsTo
        rw [List.range_succ, List.filter_append, List.filter_cons, List.filter_nil, kidF_of ho, hc]
      refine ⟨.int j, _, next_dict (by krn_off) (by lcg_sub) (kvs_get ho), ?_⟩
      isplit
      refine ifs_one ?_
      refine t_and2 ?_
      refine t_cmp ?_
      nest_room
      refine r_list ?_
      refine a_nil ?_
      refine ⟨by simp, fun em => ?_⟩
      refine c_nenil (xs := wl) (by lcg_sub) (by lcg_sub) hr'.cl ?_
      cases h1 : !decide (wl = []) with
      | false =>
        refine br_f rfl ⟨fun e => (by first | exact ctf e | exact cft e), fun _ => ?_⟩
        rw [h1, Bool.false_and] at hstep
        refine ⟨qs.length - (j + 1), _, dec_lt hj, ?_, hNj (j + 1) (some (.int j)) hj⟩
        refine Sb.pick (by l_intsC) (Sb.pick (by (repeat (first | (with_reducible refine Pick.head' ?_) | (with_reducible apply Pick.tail))); refine congrArg AObj.list ?_; rw [hstep _ rfl, if_neg (by decide), List.append_nil]) ?_)
        tb_rel
      | true =>
        refine br_t rfl ?_
        rw [h1, Bool.true_and] at hstep
        refine t_call ?_
        refine r_callf (by assumption) 28 (by decide) (by assumption) (by lcg_sub) ?_ fN28
        refine a_cons ?_
        nest_room
        refine a_cons ?_
        tlg_ne
        refine a_nil ?_
        refine CD.cl (isChild_ok P (by lcg_sub) (by lcg_src) ho (hr'.le (by decide)) ?_)
        refine ⟨_, rfl, fun e => ?_, fun e => ?_⟩
        · rw [e] at hstep
          refine r_sub ?_
          refine r_sub ?_
          nest_room
          tlg_ne
          refine i_dict (by lcg_sub) (kvAt_kvs ho) ?_
          refine r_int ?_
          refine i_list (by lcg_sub) (by decide) (by decide) rfl ?_
          refine ⟨_, _, by krn_off, by first | exact len_map_le (len_map_le (by omega)) | exact len_map_le (by omega) | (simp only [List.length_map]; omega), qs.length - (j + 1), _, dec_lt hj, ?_, hNj (j + 1) (some (.int j)) hj⟩
          refine Sb.pick (by l_intsC) (Sb.pick (by (repeat (first | (with_reducible refine Pick.head' ?_) | (with_reducible apply Pick.tail))); refine congrArg AObj.list ?_; rw [hstep _ rfl, if_pos rfl, refs_snoc, wayA_of ho]) ?_)
          tb_rel
        · rw [e] at hstep
          refine ⟨qs.length - (j + 1), _, dec_lt hj, ?_, hNj (j + 1) (some (.int j)) hj⟩
          refine Sb.pick (by l_intsC) (Sb.pick (by (repeat (first | (with_reducible refine Pick.head' ?_) | (with_reducible apply Pick.tail))); refine congrArg AObj.list ?_; rw [hstep _ rfl, if_neg (by decide), List.append_nil]) ?_)
          tb_rel
    left
    have hje : j = qs.length := Nat.le_antisymm hjl (Nat.le_of_not_lt hj)
    subst hje
    have hKl := hkl qs.length
    have hKlt : ∀ k ∈ kidsTo qs wl qs.length, k < qs.length ∧ wl ≠ [] := by
      intro k hk
      obtain ⟨h1, h2⟩ := List.mem_filter.mp hk
      refine ⟨List.mem_range.mp h1, fun e => ?_⟩
      rw [e] at h2
      simp at h2
    have hKnd : (kidsTo qs wl qs.length).Nodup := List.Pairwise.filter _ List.nodup_range
    refine ⟨_, end_dict hr'.hh (by lcg_sub) (by lcg_sub) (by rw [kvs_len]; omega) (by lcg_off) (by simp), ?_⟩
    generalize kidsTo qs wl qs.length = K at H hKl hKlt hKnd ⊢
    isplit
    refine ⟨_, _, by lcg_sub, by lcg_off, by simp, ?_⟩
    refine thn ?_
    refine s_cons ?_
    refine s_compF (m := [(".0", none), ("one", none)]) (names' := [("one", .local), ("len", .globalImplicit), ("is_within", .cell), ("way", .cell)]) (cells' := [("is_within", c_is_within), ("way", c_way)]) (ck := ["is_within", "way", "rows"]) (ck' := ["is_within", "way"]) hE (swaps_comp hE (by lcg_sub) rfl (by decide)) rfl rfl (by simp) (by decide) ?_
    tlg_ne
    refine iter_list (by lcg_sub) fun it2 => ⟨fun l3 hs3 => self_list (hs3.subset (.head _)), fun C2 D2 cenv2 hEc2 => ?_⟩
    refine inv_comp21 (fun q vo => K.length - q) (fun q vo => q ≤ K.length) (fun q vo => (C2, .frame [(".0", none), ("one", vo)]) :: (D2, .list (refs qs ((K.take q).filter fun k => (keepB b wl) (wayL qs k)))) :: (it2, .liter D q) :: (D, .list (refs qs K)) :: (L, .frame [("node", some (.int i)), ("some", some (.ref D)), ("found", none)]) :: (c_is_within, .cell (some (.bool b))) :: (c_way, .cell (some (.ref w))) :: (c_rows, .cell (some (.ref d))) :: LL) 0 none Sb.refl (Nat.zero_le _) fun J (hNq : ∀ q vo, q ≤ K.length → J (K.length - q) ((C2, .frame [(".0", none), ("one", vo)]) :: (D2, .list (refs qs ((K.take q).filter fun k => (keepB b wl) (wayL qs k)))) :: (it2, .liter D q) :: (D, .list (refs qs K)) :: (L, .frame [("node", some (.int i)), ("some", some (.ref D)), ("found", none)]) :: (c_is_within, .cell (some (.bool b))) :: (c_way, .cell (some (.ref w))) :: (c_rows, .cell (some (.ref d))) :: LL)) q vo (hql : q ≤ K.length) => (?_ : TurnK Z _ _ ((C2, .frame [(".0", none), ("one", vo)]) :: (D2, .list (refs qs ((K.take q).filter fun k => (keepB b wl) (wayL qs k)))) :: (it2, .liter D q) :: (D, .list (refs qs K)) :: (L, .frame [("node", some (.int i)), ("some", some (.ref D)), ("found", none)]) :: (c_is_within, .cell (some (.bool b))) :: (c_way, .cell (some (.ref w))) :: (c_rows, .cell (some (.ref d))) :: LL) _ _ _)
    by_cases hq2 : q < K.length
    · right
      refine (fun k hk => ?_ : ∀ k, K[q] = k → _) _ (rfl)
      have hkm : k ∈ K := hk ▸ List.getElem_mem hq2
      obtain ⟨hkl2, hwn⟩ := hKlt k hkm
      refine (fun o ho => ?_ : ∀ o, qs[k]? = some o → _) _ (List.getElem?_eq_getElem hkl2)
      have o1 := row_in1 hin ho
      have o2 := row_in2 hin ho
      obtain ⟨how, hon⟩ := hwz o (List.mem_of_getElem? ho)
      have htk : K.take (q + 1) = K.take q ++ [k] := by rw [List.take_add_one, List.getElem?_eq_getElem hq2, hk]; rfl
      have hfl : ((K.take q).filter fun k => (keepB b wl) (wayL qs k)).length ≤ 50 := by
        refine Nat.le_trans (List.length_filter_le _ _) ?_
        rw [List.length_take]; omega
      have hstep : ∀ c, (keepB b wl) o.way = c → (K.take (q + 1)).filter (fun k => (keepB b wl) (wayL qs k)) = (K.take q).filter (fun k => (keepB b wl) (wayL qs k)) ++ if c = true then [k] else [] := by
        intro c hc
        rw [htk, List.filter_append, List.filter_cons, List.filter_nil, wayL_of ho, hc]
      have no : (keepB b wl) o.way = false → Dot J (K.length - q) ((C2, .frame [(".0", none), ("one", some (.ref o.w))]) :: (D2, .list (refs qs ((K.take q).filter fun k => (keepB b wl) (wayL qs k)))) :: (it2, .liter D (q + 1)) :: (D, .list (refs qs K)) :: (L, .frame [("node", some (.int i)), ("some", some (.ref D)), ("found", none)]) :: (c_is_within, .cell (some (.bool b))) :: (c_way, .cell (some (.ref w))) :: (c_rows, .cell (some (.ref d))) :: LL) := fun e => by
        refine ⟨K.length - (q + 1), _, dec_lt hq2, ?_, hNq (q + 1) (some (.ref o.w)) hq2⟩
        rw [hstep _ e, if_neg (by decide), List.append_nil]
        exact Sb.refl
      obtain ⟨x, xs, ex⟩ : ∃ x xs, o.way = x :: xs := List.exists_cons_of_ne_nil hon
      obtain ⟨y, ys, ey⟩ : ∃ y ys, wl = y :: ys := List.exists_cons_of_ne_nil hwn
      have hval : (keepB b wl) o.way = (decide (x = y) && (ltI (nl wl) (nl o.way) && (b || !decide (o.way.take wl.length = wl)))) := by
        unfold keepB
        rw [ex, ey]
      refine ⟨.ref o.w, _, next_list (by krn_off) (by lcg_sub) ?_, ?_⟩
      · rw [List.getElem?_map, List.getElem?_eq_getElem hq2, hk, Option.map_some, wayA_of ho]
      isplit
      refine ifs_one ?_
      refine t_and3 ?_
      refine t_cmp ?_
      refine r_sub ?_
      tlg_ne
      refine r_int ?_
      refine i_list (v := .int ((x : Nat) : Int)) (by lcg_sub) (by decide) (by decide) (by rw [ex]; rfl) ?_
      refine r_sub ?_
      nest_room
      refine r_int ?_
      refine i_list (v := .int ((y : Nat) : Int)) (by lcg_sub) (by decide) (by decide) (by rw [ey]; rfl) ?_
      refine c_eqi ?_
      rw [show (((x : Nat) : Int) == ((y : Nat) : Int)) = decide (x = y) by rw [Bool.eq_iff_iff, beq_iff_eq, decide_eq_true_iff]; omega]
      cases h1 : decide (x = y) with
      | false =>
        refine br_f rfl ⟨fun e => (by first | exact ctf e | exact cft e), fun _ => no ?_⟩
        rw [hval, h1]; rfl
      | true =>
        refine br_t rfl ?_
        refine t_cmp ?_
        tlg_ne
        nest_room
        refine c_gtl (ns := nl o.way) (ms := nl wl) (by lcg_sub) (by lcg_sub) (Nat.lt_of_le_of_lt (Nat.le_add_right _ 64) hr'.cl) ?_
        cases h2 : ltI (nl wl) (nl o.way) with
        | false =>
          refine br_f rfl ⟨fun e => (by first | exact ctf e | exact cft e), fun _ => no ?_⟩
          rw [hval, h1, h2]; rfl
        | true =>
          refine br_t rfl ?_
          refine t_or2 ?_
          refine t_name ?_
          nest_room
          refine ⟨_, rfl, fun eb => ?_, fun eb => ?_⟩
          rotate_left
          · have HV : (keepB b wl) o.way = true := by rw [hval, h1, h2, eb]; rfl
            refine ⟨fun _ => ?_, fun e => (by first | exact ctf e | exact cft e)⟩
            tlg_ne
            refine ⟨_, _, by krn_off, by first | exact len_map_le (len_map_le (by omega)) | exact len_map_le (by omega) | (simp only [List.length_map]; omega), K.length - (q + 1), _, dec_lt hq2, ?_, hNq (q + 1) (some (.ref o.w)) hq2⟩
            refine Sb.pick (by l_intsC) (Sb.pick (by (repeat (first | (with_reducible refine Pick.head' ?_) | (with_reducible apply Pick.tail))); refine congrArg AObj.list ?_; rw [hstep _ HV, if_pos rfl, refs_snoc, wayA_of ho]) ?_)
            tb_rel
          refine t_cmp ?_
          refine r_slice ?_
          tlg_ne
          refine eo_none ?_
          refine eo_some ?_
          refine rc_len (by assumption) (by assumption) (by lcg_sub) ?_
          nest_room
          refine b_len (by lcg_sub) (by first | exact len_map_le (len_map_le (by omega)) | exact len_map_le (by omega) | (simp only [List.length_map]; omega)) ?_
          refine eo_none ?_
          refine ⟨_, _, _, _, _, rfl, by lcg_sub, rfl, rfl, rfl, by simp, by first | exact len_map_le (len_map_le (by omega)) | exact len_map_le (by omega) | (simp only [List.length_map]; omega), fun sl => ?_⟩
          rw [pickA_upto, inl_take]
          nest_room
          refine c_nel (ns := nl (o.way.take (inl wl).length)) (ms := nl wl) (by lcg_sub) (by lcg_sub) hr'.cl ?_
          rw [dec_nl, show (inl wl).length = wl.length by simp]
          cases h3 : !decide (o.way.take wl.length = wl) with
          | true =>
            have HV : (keepB b wl) o.way = true := by rw [hval, h1, h2, h3, eb]; rfl
            refine ⟨fun _ => ?_, fun e => (by first | exact ctf e | exact cft e)⟩
            tlg_ne
            refine ⟨_, _, by krn_off, by first | exact len_map_le (len_map_le (by omega)) | exact len_map_le (by omega) | (simp only [List.length_map]; omega), K.length - (q + 1), _, dec_lt hq2, ?_, hNq (q + 1) (some (.ref o.w)) hq2⟩
            refine Sb.pick (by l_intsC) (Sb.pick (by (repeat (first | (with_reducible refine Pick.head' ?_) | (with_reducible apply Pick.tail))); refine congrArg AObj.list ?_; rw [hstep _ HV, if_pos rfl, refs_snoc, wayA_of ho]) ?_)
            tb_rel
          | false =>
            refine ⟨fun e => (by first | exact ctf e | exact cft e), fun _ => ?_⟩
            have hno : (keepB b wl) o.way = false := by rw [hval, h1, h2, h3, eb]; rfl
            obtain ⟨m, l', q1, q2, q3⟩ := no hno
            exact ⟨m, l', q1, .trans q2 (.drop Sb.refl), q3⟩
    left
    have hqe : q = K.length := Nat.le_antisymm hql (Nat.le_of_not_lt hq2)
    subst hqe
    rw [List.take_length]
    refine ⟨_, end_list hr'.hh (by lcg_sub) (by lcg_sub) (by first | exact len_map_le (len_map_le (by omega)) | exact len_map_le (by omega) | (simp only [List.length_map]; omega)) (by lcg_off) (by simp), ?_⟩
    have hFl : (K.filter fun k => (keepB b wl) (wayL qs k)).length ≤ 50 := Nat.le_trans (List.length_filter_le _ _) (by omega)
    have hFlt : ∀ k ∈ K.filter (fun k => (keepB b wl) (wayL qs k)), k < qs.length := fun k hk => (hKlt k (List.mem_filter.mp hk).1).1
    have hFnd : (K.filter fun k => (keepB b wl) (wayL qs k)).Nodup := List.Pairwise.filter _ hKnd
    generalize (K.filter fun k => (keepB b wl) (wayL qs k)) = F at H hFl hFlt hFnd ⊢
    isplit
    refine ⟨_, _, by lcg_sub, by lcg_off, by simp, ?_⟩
    refine t_cons ?_
    refine s_ret ?_
    refine r_compF (m := [(".0", none), ("one", none)]) (names' := [("one", .local)]) (cells' := []) (ck := ["is_within", "way", "rows"]) (ck' := []) hE rfl rfl (by simp) (by decide) ?_
    refine rc_sorted (by assumption) (by assumption) (by lcg_sub) ?_
    tlg_ne
    refine b_sortedL (L := L) (ws := F.map (wayA qs)) (ways := F.map fun k => nl (wayL qs k)) (.tail _ (.tail _ (.head _))) (by rw [List.map_map]; exact .head _) (by simp) (fun i h1 h2 => ?_) ?_ (by first | exact len_map_le (len_map_le (by omega)) | exact len_map_le (by omega) | (simp; omega)) hr'.cl fun sb q hqp hqs => ?_
    · simp only [List.length_map] at h1
      refine (fun o ho => ?_ : ∀ o, qs[F[i]]? = some o → _) _ (List.getElem?_eq_getElem (hFlt _ (List.getElem_mem h1)))
      have o1 := row_in1 hin ho
      have o2 := row_in2 hin ho
      rw [List.getElem_map, List.getElem_map, wayA_of ho, wayL_of ho]
      lcg_sub
    · refine List.pairwise_map.mpr (List.Pairwise.imp_of_mem (fun {a b} ha hb hab e => hab ?_) hFnd)
      refine (fun oa hoa => ?_ : ∀ o, qs[a]? = some o → _) _ (List.getElem?_eq_getElem (hFlt _ ha))
      refine (fun ob hob => ?_ : ∀ o, qs[b]? = some o → _) _ (List.getElem?_eq_getElem (hFlt _ hb))
      rw [wayL_of hoa, wayL_of hob] at e
      exact hnd a b oa ob hoa hob (nl_inj e)
    rw [List.length_map] at hqp hqs
    have hqlen : q.length = F.length := by simpa using hqp.length_eq
    have hqF : ∀ i ∈ q, i < F.length := fun i hi => List.mem_range.mp (hqp.subset hi)
    have hH := H q hqp fun i j hij hj => by
      have h1 := hqs i j hij hj
      have gi : ∀ x, x < F.length → (F.map fun k => nl (wayL qs k)).getD x [] = nl (wayL qs (F.getD x 0)) := by
        intro x hx
        rw [getD_lt (by simpa using hx), List.getElem_map, getD_lt hx]
      have m1 : q.getD i 0 < F.length := by rw [getD_lt (by omega)]; exact hqF _ (List.getElem_mem _)
      have m2 : q.getD j 0 < F.length := by rw [getD_lt (by omega)]; exact hqF _ (List.getElem_mem _)
      rw [gi _ m1, gi _ m2] at h1
      exact h1
    clear hqs hqp H
    have hRF : ∀ i ∈ q, i < F.length := hqF
    have hRl : q.length = F.length := hqlen
    have hout : q.map (fun i => (wayL qs (F.getD i 0)).getLastD 0) = out := hH
    generalize q = R at hRF hRl hout ⊢
    refine iter_list (by lcg_sub) fun it3 => ⟨fun l3 hs3 => self_list (hs3.subset (.head _)), fun C3 D3 cenv3 hEc3 => ?_⟩
    refine inv_comp21 (fun j vo => R.length - j) (fun j vo => j ≤ R.length) (fun j vo => (C3, .frame [(".0", none), ("one", vo)]) :: (D3, .list (inl ((R.take j).map fun i => (wayL qs (F.getD i 0)).getLastD 0))) :: (it3, .liter sb j) :: (sb, .list (R.map fun i => AV.ref ((F.map (wayA qs)).getD i 0))) :: LL) 0 none (show Sb ((C3, .frame [(".0", none), ("one", none)]) :: (D3, .list []) :: (it3, .liter sb 0) :: (sb, .list (R.map fun i => AV.ref ((F.map (wayA qs)).getD i 0))) :: LL) _ from by tb_rel) (Nat.zero_le _) fun J (hNj : ∀ j vo, j ≤ R.length → J (R.length - j) ((C3, .frame [(".0", none), ("one", vo)]) :: (D3, .list (inl ((R.take j).map fun i => (wayL qs (F.getD i 0)).getLastD 0))) :: (it3, .liter sb j) :: (sb, .list (R.map fun i => AV.ref ((F.map (wayA qs)).getD i 0))) :: LL)) j vo (hjl : j ≤ R.length) => (?_ : TurnK Z _ _ ((C3, .frame [(".0", none), ("one", vo)]) :: (D3, .list (inl ((R.take j).map fun i => (wayL qs (F.getD i 0)).getLastD 0))) :: (it3, .liter sb j) :: (sb, .list (R.map fun i => AV.ref ((F.map (wayA qs)).getD i 0))) :: LL) _ _ _)
    by_cases hj : j < R.length
    · right
      refine (fun k hk => ?_ : ∀ k, R[j] = k → _) _ (rfl)
      have hkF := hRF k (hk ▸ List.getElem_mem hj)
      have hfk : F.getD k 0 = F[k] := getD_lt hkF
      refine (fun o ho => ?_ : ∀ o, qs[F[k]]? = some o → _) _ (List.getElem?_eq_getElem (hFlt _ (List.getElem_mem hkF)))
      have o1 := row_in1 hin ho
      have o2 := row_in2 hin ho
      obtain ⟨how, hon⟩ := hwz o (List.mem_of_getElem? ho)
      have htk : R.take (j + 1) = R.take j ++ [k] := by rw [List.take_add_one, List.getElem?_eq_getElem hj, hk]; rfl
      refine ⟨.ref o.w, _, next_list (by krn_off) (by lcg_sub) ?_, ?_⟩
      · rw [List.getElem?_map, List.getElem?_eq_getElem hj, hk, Option.map_some, getD_lt (by simpa using hkF), List.getElem_map, wayA_of ho]
      isplit
      refine ifs_nil ⟨fun _ => ?_, fun e => (by first | exact ctf e | exact cft e)⟩
      refine r_sub ?_
      tlg_ne
      refine r_negc ?_
      refine i_listneg (xs := inl o.way) (v := .int ((o.way.getLastD 0 : Nat) : Int)) (by lcg_sub) (by decide) (by have := List.length_pos_iff.mpr hon; simp; omega) (by decide) (inl_getLast hon) ?_
      refine ⟨_, _, by krn_off, by simp only [List.length_map, List.length_take]; omega, R.length - (j + 1), _, dec_lt hj, ?_, hNj (j + 1) (some (.ref o.w)) hj⟩
      refine Sb.pick (by l_intsC) (Sb.pick (by (repeat (first | (with_reducible refine Pick.head' ?_) | (with_reducible apply Pick.tail))); refine congrArg AObj.list ?_; rw [htk, List.map_append, List.map_cons, List.map_nil, inl_snoc, hfk, wayL_of ho]) ?_)
      tb_rel
    · left
      have hje : j = R.length := Nat.le_antisymm hjl (Nat.le_of_not_lt hj)
      subst hje
      rw [List.take_length, hout]
      refine ⟨_, end_list hr'.hh (by lcg_sub) (by lcg_sub) (by first | exact len_map_le (len_map_le (by omega)) | exact len_map_le (by omega) | (simp only [List.length_map]; omega)) (by lcg_off) (by simp), ?_⟩
      refine ⟨_, _, by lcg_sub, by lcg_off, by simp, ?_⟩
      refine thr ?_
      exact ⟨_, .cons (.drop hsb), h D3⟩
  refine s_unp2 (Room.hh (by assumption)) ?_
  refine r_callf (by assumption) 29 (by decide) (by assumption) (by lcg_sub) ?_ fN29
  refine a_cons ?_
  nest_room
  refine a_cons ?_
  tlg_ne
  refine a_nil ?_
  refine CD.cl (place_ok P (by lcg_sub) (by lcg_src) hi (by omega) hrw.2 (hr'.le (by decide)) (fun hb tu w => ?_) (fun hb tu => ?_))
  · refine ⟨_, _, _, rfl, .inl (by lcg_sub), ?_⟩
    refine st_cell (by assumption) (by lcg_sub) (by lcg_sub) (by krn_off) ?_
    refine st_cell (by assumption) (by lcg_sub) (by lcg_sub) (by krn_off) ?_
    refine thn ?_
    rw [hb] at H
    simp only [if_true] at H
    refine TR.subperm (l2 := (L, .frame [("node", some (.int i)), ("some", none), ("found", none)]) :: (c_is_within, .cell (some (.bool true))) :: (c_way, .cell (some (.ref w))) :: (c_rows, .cell (some (.ref d))) :: (w, .list (inl r.way.dropLast)) :: l) ?_ (by tb_rel)
    exact key w true r.way.dropLast ((w, .list (inl r.way.dropLast)) :: l) H (by rw [List.length_dropLast]; omega) (.head _) (In.tail hq) (.tail _ hd) (.drop Sb.refl)
  · refine ⟨_, _, _, rfl, .inl (by lcg_sub), ?_⟩
    refine st_cell (by assumption) (by lcg_sub) (by lcg_sub) (by krn_off) ?_
    refine st_cell (by assumption) (by lcg_sub) (by lcg_sub) (by krn_off) ?_
    refine thn ?_
    rw [hb] at H
    simp only [Bool.false_eq_true, if_false] at H
    refine TR.subperm (l2 := (L, .frame [("node", some (.int i)), ("some", none), ("found", none)]) :: (c_is_within, .cell (some (.bool false))) :: (c_way, .cell (some (.ref r.w))) :: (c_rows, .cell (some (.ref d))) :: l) ?_ (by tb_rel)
    exact key r.w false r.way l H hrw.1 r2 hq hd Sb.refl
theorem ahead_ok (P : PX Z) {d : Addr} {qs : List RowA} {ep i : Nat} {r : RowA} {out : List Nat} {Q : AV → Led → Prop} (hd : (d, .dictI (kvs qs) ep) ∈ l) (hq : In (qsLed qs) l) (hi : qs[i]? = some r) (hz : qs.length ≤ 50) (hwz : ∀ q ∈ qs, q.way.length ≤ 50 ∧ q.way ≠ []) (hnd : ∀ (i j : Nat) (a b : RowA), qs[i]? = some a → qs[j]? = some b → a.way = b.way → i = j) (hr : Room A 6)
    (H : ∀ q : List Nat, q.Perm (List.range ((kidsTo qs (if beside r.kind then r.way.dropLast else r.way) qs.length).filter fun k => (keepA (if beside r.kind then r.way.dropLast else r.way)) (wayL qs k)).length) → (∀ i j, i < j → j < ((kidsTo qs (if beside r.kind then r.way.dropLast else r.way) qs.length).filter fun k => (keepA (if beside r.kind then r.way.dropLast else r.way)) (wayL qs k)).length → ltI (nl (wayL qs (((kidsTo qs (if beside r.kind then r.way.dropLast else r.way) qs.length).filter fun k => (keepA (if beside r.kind then r.way.dropLast else r.way)) (wayL qs k)).getD (q.getD i 0) 0))) (nl (wayL qs (((kidsTo qs (if beside r.kind then r.way.dropLast else r.way) qs.length).filter fun k => (keepA (if beside r.kind then r.way.dropLast else r.way)) (wayL qs k)).getD (q.getD j 0) 0))) = true) → (q.map (fun i => (wayL qs (((kidsTo qs (if beside r.kind then r.way.dropLast else r.way) qs.length).filter fun k => (keepA (if beside r.kind then r.way.dropLast else r.way)) (wayL qs k)).getD i 0)).getLastD 0)).reverse = out)
    (h : ∀ b, Q (.ref b) ((b, .list (inl out)) :: l)) : CD Z A (.ref (P.fa 31)) [.ref d, .int i] l Q X := by
  have r1 := row_in1 hq hi
  have r2 := row_in2 hq hi
  have hrw := hwz r (List.mem_of_getElem? hi)
  refine cd_fnC (P.fdef 31 (by decide)).1 (m := [("node", some (.int i)), ("is_within", none), ("some", none), ("found", none)]) (names := [("rows", .cell), ("node", .local), ("way", .cell), ("is_within", .local), ("some", .local), ("found", .local), ("_law_place", .globalImplicit), ("sorted", .globalImplicit)]) (ps := ["rows", "node"]) (ks := [true, false]) (others := ["is_within", "some", "found"]) (cx := [("way", none), ("rows", some (.ref d))]) (cxk := ["way", "rows"]) rfl rfl rfl (fun doc pm cdv ct => bind2 fun v0 v1 => rfl) (by decide) (nodupS (ks := ["node", "is_within", "some", "found"]) (by decide)) (by intro p hp; simp only [List.mem_cons, List.not_mem_nil, or_false] at hp; rcases hp with rfl | rfl <;> rfl) rfl (k := 5) hr ?_
  intro env L A'
  refine cells_all2 fun c_way c_rows (hE : EnvIs env L _ [("way", c_way), ("rows", c_rows)]) hr' => (?_ : SV Z A' env _ ((L, .frame [("node", some (.int i)), ("is_within", none), ("some", none), ("found", none)]) :: (c_way, .cell (none)) :: (c_rows, .cell (some (.ref d))) :: l) _ _)
  refine s_cons ?_
  have key : ∀ (w : Addr) (b : Bool) (wl : List Nat) (LL : Led), (∀ q : List Nat, q.Perm (List.range ((kidsTo qs wl qs.length).filter fun k => (keepA wl) (wayL qs k)).length) → (∀ i j, i < j → j < ((kidsTo qs wl qs.length).filter fun k => (keepA wl) (wayL qs k)).length → ltI (nl (wayL qs (((kidsTo qs wl qs.length).filter fun k => (keepA wl) (wayL qs k)).getD (q.getD i 0) 0))) (nl (wayL qs (((kidsTo qs wl qs.length).filter fun k => (keepA wl) (wayL qs k)).getD (q.getD j 0) 0))) = true) → (q.map (fun i => (wayL qs (((kidsTo qs wl qs.length).filter fun k => (keepA wl) (wayL qs k)).getD i 0)).getLastD 0)).reverse = out) → wl.length ≤ 50 → (w, .list (inl wl)) ∈ LL → In (qsLed qs) LL → (d, .dictI (kvs qs) ep) ∈ LL → Sb l LL → SV Z A' env ((fdB (stAt 31)).drop 1) ((L, .frame [("node", some (.int i)), ("is_within", some (.bool b)), ("some", none), ("found", none)]) :: (c_way, .cell (some (.ref w))) :: (c_rows, .cell (some (.ref d))) :: LL) (fun fl => Up (Q (retOf fl))) noX := by
    clear H
    intro w b wl LL H hwl hw hin hdl hsb
    refine s_cons ?_
    refine s_compF (m := [(".0", none), ("other", none)]) (names' := [("other", .local), ("_law_is_child", .globalImplicit), ("rows", .cell), ("way", .cell)]) (cells' := [("way", c_way), ("rows", c_rows)]) (ck := ["way", "rows"]) (ck' := ["way", "rows"]) hE (swaps_comp hE (by lcg_sub) rfl (by decide)) rfl rfl (by simp) (by decide) ?_
    nest_room
    refine iter_dict (by lcg_sub) fun it => ⟨fun l3 hs3 => self_dict (hs3.subset (.head _)), fun C D cenv hEc => ?_⟩
    refine inv_comp21 (fun j vo => qs.length - j) (fun j vo => j ≤ qs.length) (fun j vo => (C, .frame [(".0", none), ("other", vo)]) :: (D, .list (refs qs (kidsTo qs wl j))) :: (it, .kiter d j (kvs qs).length ep) :: (L, .frame [("node", some (.int i)), ("is_within", some (.bool b)), ("some", none), ("found", none)]) :: (c_way, .cell (some (.ref w))) :: (c_rows, .cell (some (.ref d))) :: LL) 0 none Sb.refl (Nat.zero_le _) fun J (hNj : ∀ j vo, j ≤ qs.length → J (qs.length - j) ((C, .frame [(".0", none), ("other", vo)]) :: (D, .list (refs qs (kidsTo qs wl j))) :: (it, .kiter d j (kvs qs).length ep) :: (L, .frame [("node", some (.int i)), ("is_within", some (.bool b)), ("some", none), ("found", none)]) :: (c_way, .cell (some (.ref w))) :: (c_rows, .cell (some (.ref d))) :: LL)) j vo (hjl : j ≤ qs.length) => (?_ : TurnK Z _ _ ((C, .frame [(".0", none), ("other", vo)]) :: (D, .list (refs qs (kidsTo qs wl j))) :: (it, .kiter d j (kvs qs).length ep) :: (L, .frame [("node", some (.int i)), ("is_within", some (.bool b)), ("some", none), ("found", none)]) :: (c_way, .cell (some (.ref w))) :: (c_rows, .cell (some (.ref d))) :: LL) _ _ _)
    have hkl : ∀ j, (kidsTo qs wl j).length ≤ j := fun j => by
      unfold kidsTo
      refine Nat.le_trans (List.length_filter_le _ _) ?_
      rw [List.length_range]; exact Nat.le_refl _
    by_cases hj : j < qs.length
    · right
      refine (fun o ho => ?_ : ∀ o, qs[j]? = some o → _) _ (List.getElem?_eq_getElem hj)
      have o1 := row_in1 hin ho
      have o2 := row_in2 hin ho
      have hkj := hkl j
      have hstep : ∀ c, ((!decide (wl = [])) && isKid o.kind) = c → kidsTo qs wl (j + 1) = kidsTo qs wl j ++ if c = true then [j] else [] := by
        intro c hc
        unfold kidsTo
        rw [List.range_succ, List.filter_append, List.filter_cons, List.filter_nil, kidF_of ho, hc]
      refine ⟨.int j, _, next_dict (by krn_off) (by lcg_sub) (kvs_get ho), ?_⟩
      isplit
      refine ifs_one ?_
      refine t_and2 ?_
      refine t_cmp ?_
      nest_room
      refine r_list ?_
      refine a_nil ?_
      refine ⟨by simp, fun em => ?_⟩
      refine c_nenil (xs := wl) (by lcg_sub) (by lcg_sub) hr'.cl ?_
      cases h1 : !decide (wl = []) with
      | false =>
        refine br_f rfl ⟨fun e => (by first | exact ctf e | exact cft e), fun _ => ?_⟩
        rw [h1, Bool.false_and] at hstep
        refine ⟨qs.length - (j + 1), _, dec_lt hj, ?_, hNj (j + 1) (some (.int j)) hj⟩
        refine Sb.pick (by l_intsC) (Sb.pick (by (repeat (first | (with_reducible refine Pick.head' ?_) | (with_reducible apply Pick.tail))); refine congrArg AObj.list ?_; rw [hstep _ rfl, if_neg (by decide), List.append_nil]) ?_)
        tb_rel
      | true =>
        refine br_t rfl ?_
        rw [h1, Bool.true_and] at hstep
        refine t_call ?_
        refine r_callf (by assumption) 28 (by decide) (by assumption) (by lcg_sub) ?_ fN28
        refine a_cons ?_
        nest_room
        refine a_cons ?_
        tlg_ne
        refine a_nil ?_
        refine CD.cl (isChild_ok P (by lcg_sub) (by lcg_src) ho (hr'.le (by decide)) ?_)
        refine ⟨_, rfl, fun e => ?_, fun e => ?_⟩
        · rw [e] at hstep
          refine r_sub ?_
          refine r_sub ?_
          nest_room
          tlg_ne
          refine i_dict (by lcg_sub) (kvAt_kvs ho) ?_
          refine r_int ?_
          refine i_list (by lcg_sub) (by decide) (by decide) rfl ?_
          refine ⟨_, _, by krn_off, by first | exact len_map_le (len_map_le (by omega)) | exact len_map_le (by omega) | (simp only [List.length_map]; omega), qs.length - (j + 1), _, dec_lt hj, ?_, hNj (j + 1) (some (.int j)) hj⟩
          refine Sb.pick (by l_intsC) (Sb.pick (by (repeat (first | (with_reducible refine Pick.head' ?_) | (with_reducible apply Pick.tail))); refine congrArg AObj.list ?_; rw [hstep _ rfl, if_pos rfl, refs_snoc, wayA_of ho]) ?_)
          tb_rel
        · rw [e] at hstep
          refine ⟨qs.length - (j + 1), _, dec_lt hj, ?_, hNj (j + 1) (some (.int j)) hj⟩
          refine Sb.pick (by l_intsC) (Sb.pick (by (repeat (first | (with_reducible refine Pick.head' ?_) | (with_reducible apply Pick.tail))); refine congrArg AObj.list ?_; rw [hstep _ rfl, if_neg (by decide), List.append_nil]) ?_)
          tb_rel
    left
    have hje : j = qs.length := Nat.le_antisymm hjl (Nat.le_of_not_lt hj)
    subst hje
    have hKl := hkl qs.length
    have hKlt : ∀ k ∈ kidsTo qs wl qs.length, k < qs.length ∧ wl ≠ [] := by
      intro k hk
      obtain ⟨h1, h2⟩ := List.mem_filter.mp hk
      refine ⟨List.mem_range.mp h1, fun e => ?_⟩
      rw [e] at h2
      simp at h2
    have hKnd : (kidsTo qs wl qs.length).Nodup := List.Pairwise.filter _ List.nodup_range
    refine ⟨_, end_dict hr'.hh (by lcg_sub) (by lcg_sub) (by rw [kvs_len]; omega) (by lcg_off) (by simp), ?_⟩
    generalize kidsTo qs wl qs.length = K at H hKl hKlt hKnd ⊢
    isplit
    refine ⟨_, _, by lcg_sub, by lcg_off, by simp, ?_⟩
    refine thn ?_
    refine s_cons ?_
    refine s_compF (m := [(".0", none), ("one", none)]) (names' := [("one", .local), ("len", .globalImplicit), ("way", .cell)]) (cells' := [("way", c_way)]) (ck := ["way", "rows"]) (ck' := ["way"]) hE (swaps_comp hE (by lcg_sub) rfl (by decide)) rfl rfl (by simp) (by decide) ?_
    tlg_ne
    refine iter_list (by lcg_sub) fun it2 => ⟨fun l3 hs3 => self_list (hs3.subset (.head _)), fun C2 D2 cenv2 hEc2 => ?_⟩
    refine inv_comp21 (fun q vo => K.length - q) (fun q vo => q ≤ K.length) (fun q vo => (C2, .frame [(".0", none), ("one", vo)]) :: (D2, .list (refs qs ((K.take q).filter fun k => (keepA wl) (wayL qs k)))) :: (it2, .liter D q) :: (D, .list (refs qs K)) :: (L, .frame [("node", some (.int i)), ("is_within", some (.bool b)), ("some", some (.ref D)), ("found", none)]) :: (c_way, .cell (some (.ref w))) :: (c_rows, .cell (some (.ref d))) :: LL) 0 none Sb.refl (Nat.zero_le _) fun J (hNq : ∀ q vo, q ≤ K.length → J (K.length - q) ((C2, .frame [(".0", none), ("one", vo)]) :: (D2, .list (refs qs ((K.take q).filter fun k => (keepA wl) (wayL qs k)))) :: (it2, .liter D q) :: (D, .list (refs qs K)) :: (L, .frame [("node", some (.int i)), ("is_within", some (.bool b)), ("some", some (.ref D)), ("found", none)]) :: (c_way, .cell (some (.ref w))) :: (c_rows, .cell (some (.ref d))) :: LL)) q vo (hql : q ≤ K.length) => (?_ : TurnK Z _ _ ((C2, .frame [(".0", none), ("one", vo)]) :: (D2, .list (refs qs ((K.take q).filter fun k => (keepA wl) (wayL qs k)))) :: (it2, .liter D q) :: (D, .list (refs qs K)) :: (L, .frame [("node", some (.int i)), ("is_within", some (.bool b)), ("some", some (.ref D)), ("found", none)]) :: (c_way, .cell (some (.ref w))) :: (c_rows, .cell (some (.ref d))) :: LL) _ _ _)
    by_cases hq2 : q < K.length
    · right
      refine (fun k hk => ?_ : ∀ k, K[q] = k → _) _ (rfl)
      have hkm : k ∈ K := hk ▸ List.getElem_mem hq2
      obtain ⟨hkl2, hwn⟩ := hKlt k hkm
      refine (fun o ho => ?_ : ∀ o, qs[k]? = some o → _) _ (List.getElem?_eq_getElem hkl2)
      have o1 := row_in1 hin ho
      have o2 := row_in2 hin ho
      obtain ⟨how, hon⟩ := hwz o (List.mem_of_getElem? ho)
      have htk : K.take (q + 1) = K.take q ++ [k] := by rw [List.take_add_one, List.getElem?_eq_getElem hq2, hk]; rfl
      have hfl : ((K.take q).filter fun k => (keepA wl) (wayL qs k)).length ≤ 50 := by
        refine Nat.le_trans (List.length_filter_le _ _) ?_
        rw [List.length_take]; omega
      have hstep : ∀ c, (keepA wl) o.way = c → (K.take (q + 1)).filter (fun k => (keepA wl) (wayL qs k)) = (K.take q).filter (fun k => (keepA wl) (wayL qs k)) ++ if c = true then [k] else [] := by
        intro c hc
        rw [htk, List.filter_append, List.filter_cons, List.filter_nil, wayL_of ho, hc]
      have no : (keepA wl) o.way = false → Dot J (K.length - q) ((C2, .frame [(".0", none), ("one", some (.ref o.w))]) :: (D2, .list (refs qs ((K.take q).filter fun k => (keepA wl) (wayL qs k)))) :: (it2, .liter D (q + 1)) :: (D, .list (refs qs K)) :: (L, .frame [("node", some (.int i)), ("is_within", some (.bool b)), ("some", some (.ref D)), ("found", none)]) :: (c_way, .cell (some (.ref w))) :: (c_rows, .cell (some (.ref d))) :: LL) := fun e => by
        refine ⟨K.length - (q + 1), _, dec_lt hq2, ?_, hNq (q + 1) (some (.ref o.w)) hq2⟩
        rw [hstep _ e, if_neg (by decide), List.append_nil]
        exact Sb.refl
      obtain ⟨x, xs, ex⟩ : ∃ x xs, o.way = x :: xs := List.exists_cons_of_ne_nil hon
      obtain ⟨y, ys, ey⟩ : ∃ y ys, wl = y :: ys := List.exists_cons_of_ne_nil hwn
      have hval : (keepA wl) o.way = (decide (x = y) && (ltI (nl o.way) (nl wl) && !decide (wl.take o.way.length = o.way))) := by
        unfold keepA
        rw [ex, ey]
      refine ⟨.ref o.w, _, next_list (by krn_off) (by lcg_sub) ?_, ?_⟩
      · rw [List.getElem?_map, List.getElem?_eq_getElem hq2, hk, Option.map_some, wayA_of ho]
      isplit
      refine ifs_one ?_
      refine t_and3 ?_
      refine t_cmp ?_
      refine r_sub ?_
      tlg_ne
      refine r_int ?_
      refine i_list (v := .int ((x : Nat) : Int)) (by lcg_sub) (by decide) (by decide) (by rw [ex]; rfl) ?_
      refine r_sub ?_
      nest_room
      refine r_int ?_
      refine i_list (v := .int ((y : Nat) : Int)) (by lcg_sub) (by decide) (by decide) (by rw [ey]; rfl) ?_
      refine c_eqi ?_
      rw [show (((x : Nat) : Int) == ((y : Nat) : Int)) = decide (x = y) by rw [Bool.eq_iff_iff, beq_iff_eq, decide_eq_true_iff]; omega]
      cases h1 : decide (x = y) with
      | false =>
        refine br_f rfl ⟨fun e => (by first | exact ctf e | exact cft e), fun _ => no ?_⟩
        rw [hval, h1]; rfl
      | true =>
        refine br_t rfl ?_
        refine t_cmp ?_
        tlg_ne
        nest_room
        refine c_ltl (ns := nl o.way) (ms := nl wl) (by lcg_sub) (by lcg_sub) (Nat.lt_of_le_of_lt (Nat.le_add_right _ 64) hr'.cl) ?_
        cases h2 : ltI (nl o.way) (nl wl) with
        | false =>
          refine br_f rfl ⟨fun e => (by first | exact ctf e | exact cft e), fun _ => no ?_⟩
          rw [hval, h1, h2]; rfl
        | true =>
          refine br_t rfl ?_
          refine t_cmp ?_
          refine r_slice ?_
          nest_room
          refine eo_none ?_
          refine eo_some ?_
          refine rc_len (by assumption) (by assumption) (by lcg_sub) ?_
          tlg_ne
          refine b_len (by lcg_sub) (by first | exact len_map_le (len_map_le (by omega)) | exact len_map_le (by omega) | (simp only [List.length_map]; omega)) ?_
          refine eo_none ?_
          refine ⟨_, _, _, _, _, rfl, by lcg_sub, rfl, rfl, rfl, by simp, by first | exact len_map_le (len_map_le (by omega)) | exact len_map_le (by omega) | (simp only [List.length_map]; omega), fun sl => ?_⟩
          rw [pickA_upto, inl_take]
          tlg_ne
          refine c_nel (ns := nl (wl.take (inl o.way).length)) (ms := nl o.way) (by lcg_sub) (by lcg_sub) hr'.cl ?_
          rw [dec_nl, show (inl o.way).length = o.way.length by simp]
          cases h3 : !decide (wl.take o.way.length = o.way) with
          | true =>
            have HV : (keepA wl) o.way = true := by rw [hval, h1, h2, h3]; rfl
            refine ⟨fun _ => ?_, fun e => (by first | exact ctf e | exact cft e)⟩
            tlg_ne
            refine ⟨_, _, by krn_off, by first | exact len_map_le (len_map_le (by omega)) | exact len_map_le (by omega) | (simp only [List.length_map]; omega), K.length - (q + 1), _, dec_lt hq2, ?_, hNq (q + 1) (some (.ref o.w)) hq2⟩
            refine Sb.pick (by l_intsC) (Sb.pick (by (repeat (first | (with_reducible refine Pick.head' ?_) | (with_reducible apply Pick.tail))); refine congrArg AObj.list ?_; rw [hstep _ HV, if_pos rfl, refs_snoc, wayA_of ho]) ?_)
            tb_rel
          | false =>
            refine ⟨fun e => (by first | exact ctf e | exact cft e), fun _ => ?_⟩
            have hno : (keepA wl) o.way = false := by rw [hval, h1, h2, h3]; rfl
            obtain ⟨m, l', q1, q2, q3⟩ := no hno
            exact ⟨m, l', q1, .trans q2 (.drop Sb.refl), q3⟩
    left
    have hqe : q = K.length := Nat.le_antisymm hql (Nat.le_of_not_lt hq2)
    subst hqe
    rw [List.take_length]
    refine ⟨_, end_list hr'.hh (by lcg_sub) (by lcg_sub) (by first | exact len_map_le (len_map_le (by omega)) | exact len_map_le (by omega) | (simp only [List.length_map]; omega)) (by lcg_off) (by simp), ?_⟩
    have hFl : (K.filter fun k => (keepA wl) (wayL qs k)).length ≤ 50 := Nat.le_trans (List.length_filter_le _ _) (by omega)
    have hFlt : ∀ k ∈ K.filter (fun k => (keepA wl) (wayL qs k)), k < qs.length := fun k hk => (hKlt k (List.mem_filter.mp hk).1).1
    have hFnd : (K.filter fun k => (keepA wl) (wayL qs k)).Nodup := List.Pairwise.filter _ hKnd
    generalize (K.filter fun k => (keepA wl) (wayL qs k)) = F at H hFl hFlt hFnd ⊢
    isplit
    refine ⟨_, _, by lcg_sub, by lcg_off, by simp, ?_⟩
    refine t_cons ?_
    refine s_ret ?_
    refine r_compF (m := [(".0", none), ("one", none)]) (names' := [("one", .local)]) (cells' := []) (ck := ["way", "rows"]) (ck' := []) hE rfl rfl (by simp) (by decide) ?_
    refine r_slice ?_
    refine rc_sorted (by assumption) (by assumption) (by lcg_sub) ?_
    tlg_ne
    refine b_sortedL (L := L) (ws := F.map (wayA qs)) (ways := F.map fun k => nl (wayL qs k)) (.tail _ (.tail _ (.head _))) (by rw [List.map_map]; exact .head _) (by simp) (fun i h1 h2 => ?_) ?_ (by first | exact len_map_le (len_map_le (by omega)) | exact len_map_le (by omega) | (simp; omega)) hr'.cl fun sb q hqp hqs => ?_
    · simp only [List.length_map] at h1
      refine (fun o ho => ?_ : ∀ o, qs[F[i]]? = some o → _) _ (List.getElem?_eq_getElem (hFlt _ (List.getElem_mem h1)))
      have o1 := row_in1 hin ho
      have o2 := row_in2 hin ho
      rw [List.getElem_map, List.getElem_map, wayA_of ho, wayL_of ho]
      lcg_sub
    · refine List.pairwise_map.mpr (List.Pairwise.imp_of_mem (fun {a b} ha hb hab e => hab ?_) hFnd)
      refine (fun oa hoa => ?_ : ∀ o, qs[a]? = some o → _) _ (List.getElem?_eq_getElem (hFlt _ ha))
      refine (fun ob hob => ?_ : ∀ o, qs[b]? = some o → _) _ (List.getElem?_eq_getElem (hFlt _ hb))
      rw [wayL_of hoa, wayL_of hob] at e
      exact hnd a b oa ob hoa hob (nl_inj e)
    rw [List.length_map] at hqp hqs
    have hqlen : q.length = F.length := by simpa using hqp.length_eq
    have hqF : ∀ i ∈ q, i < F.length := fun i hi => List.mem_range.mp (hqp.subset hi)
    have hH := H q hqp fun i j hij hj => by
      have h1 := hqs i j hij hj
      have gi : ∀ x, x < F.length → (F.map fun k => nl (wayL qs k)).getD x [] = nl (wayL qs (F.getD x 0)) := by
        intro x hx
        rw [getD_lt (by simpa using hx), List.getElem_map, getD_lt hx]
      have m1 : q.getD i 0 < F.length := by rw [getD_lt (by omega)]; exact hqF _ (List.getElem_mem _)
      have m2 : q.getD j 0 < F.length := by rw [getD_lt (by omega)]; exact hqF _ (List.getElem_mem _)
      rw [gi _ m1, gi _ m2] at h1
      exact h1
    clear hqs hqp H
    refine eo_none ?_
    refine eo_none ?_
    refine eo_some ?_
    refine r_negc ?_
    refine ⟨_, _, _, _, _, rfl, by lcg_sub, rfl, rfl, rfl, by decide, by first | exact len_map_le (len_map_le (by omega)) | exact len_map_le (by omega) | (simp only [List.length_map]; omega), fun rv => ?_⟩
    rw [pickA_rev, ← List.map_reverse]
    have hRF : ∀ i ∈ q.reverse, i < F.length := fun i hi => hqF i (List.mem_reverse.mp hi)
    have hRl : (q.reverse).length = F.length := by rw [List.length_reverse]; exact hqlen
    have hout : (q.reverse).map (fun i => (wayL qs (F.getD i 0)).getLastD 0) = out := by rw [List.map_reverse]; exact hH
    generalize q.reverse = R at hRF hRl hout ⊢
    refine iter_list (by lcg_sub) fun it3 => ⟨fun l3 hs3 => self_list (hs3.subset (.head _)), fun C3 D3 cenv3 hEc3 => ?_⟩
    refine inv_comp21 (fun j vo => R.length - j) (fun j vo => j ≤ R.length) (fun j vo => (C3, .frame [(".0", none), ("one", vo)]) :: (D3, .list (inl ((R.take j).map fun i => (wayL qs (F.getD i 0)).getLastD 0))) :: (it3, .liter rv j) :: (rv, .list (R.map fun i => AV.ref ((F.map (wayA qs)).getD i 0))) :: LL) 0 none (show Sb ((C3, .frame [(".0", none), ("one", none)]) :: (D3, .list []) :: (it3, .liter rv 0) :: (rv, .list (R.map fun i => AV.ref ((F.map (wayA qs)).getD i 0))) :: LL) _ from by tb_rel) (Nat.zero_le _) fun J (hNj : ∀ j vo, j ≤ R.length → J (R.length - j) ((C3, .frame [(".0", none), ("one", vo)]) :: (D3, .list (inl ((R.take j).map fun i => (wayL qs (F.getD i 0)).getLastD 0))) :: (it3, .liter rv j) :: (rv, .list (R.map fun i => AV.ref ((F.map (wayA qs)).getD i 0))) :: LL)) j vo (hjl : j ≤ R.length) => (?_ : TurnK Z _ _ ((C3, .frame [(".0", none), ("one", vo)]) :: (D3, .list (inl ((R.take j).map fun i => (wayL qs (F.getD i 0)).getLastD 0))) :: (it3, .liter rv j) :: (rv, .list (R.map fun i => AV.ref ((F.map (wayA qs)).getD i 0))) :: LL) _ _ _)
    by_cases hj : j < R.length
    · right
      refine (fun k hk => ?_ : ∀ k, R[j] = k → _) _ (rfl)
      have hkF := hRF k (hk ▸ List.getElem_mem hj)
      have hfk : F.getD k 0 = F[k] := getD_lt hkF
      refine (fun o ho => ?_ : ∀ o, qs[F[k]]? = some o → _) _ (List.getElem?_eq_getElem (hFlt _ (List.getElem_mem hkF)))
      have o1 := row_in1 hin ho
      have o2 := row_in2 hin ho
      obtain ⟨how, hon⟩ := hwz o (List.mem_of_getElem? ho)
      have htk : R.take (j + 1) = R.take j ++ [k] := by rw [List.take_add_one, List.getElem?_eq_getElem hj, hk]; rfl
      refine ⟨.ref o.w, _, next_list (by krn_off) (by lcg_sub) ?_, ?_⟩
      · rw [List.getElem?_map, List.getElem?_eq_getElem hj, hk, Option.map_some, getD_lt (by simpa using hkF), List.getElem_map, wayA_of ho]
      isplit
      refine ifs_nil ⟨fun _ => ?_, fun e => (by first | exact ctf e | exact cft e)⟩
      refine r_sub ?_
      tlg_ne
      refine r_negc ?_
      refine i_listneg (xs := inl o.way) (v := .int ((o.way.getLastD 0 : Nat) : Int)) (by lcg_sub) (by decide) (by have := List.length_pos_iff.mpr hon; simp; omega) (by decide) (inl_getLast hon) ?_
      refine ⟨_, _, by krn_off, by simp only [List.length_map, List.length_take]; omega, R.length - (j + 1), _, dec_lt hj, ?_, hNj (j + 1) (some (.ref o.w)) hj⟩
      refine Sb.pick (by l_intsC) (Sb.pick (by (repeat (first | (with_reducible refine Pick.head' ?_) | (with_reducible apply Pick.tail))); refine congrArg AObj.list ?_; rw [htk, List.map_append, List.map_cons, List.map_nil, inl_snoc, hfk, wayL_of ho]) ?_)
      tb_rel
    · left
      have hje : j = R.length := Nat.le_antisymm hjl (Nat.le_of_not_lt hj)
      subst hje
      rw [List.take_length, hout]
      refine ⟨_, end_list hr'.hh (by lcg_sub) (by lcg_sub) (by first | exact len_map_le (len_map_le (by omega)) | exact len_map_le (by omega) | (simp only [List.length_map]; omega)) (by lcg_off) (by simp), ?_⟩
      refine ⟨_, _, by lcg_sub, by lcg_off, by simp, ?_⟩
      refine thr ?_
      exact ⟨_, .cons (.drop hsb), h D3⟩
  refine s_unp2 (Room.hh (by assumption)) ?_
  refine r_callf (by assumption) 29 (by decide) (by assumption) (by lcg_sub) ?_ fN29
  refine a_cons ?_
  nest_room
  refine a_cons ?_
  tlg_ne
  refine a_nil ?_
  refine CD.cl (place_ok P (by lcg_sub) (by lcg_src) hi (by omega) hrw.2 (hr'.le (by decide)) (fun hb tu w => ?_) (fun hb tu => ?_))
  · refine ⟨_, _, _, rfl, .inl (by lcg_sub), ?_⟩
    refine st_cell (by assumption) (by lcg_sub) (by lcg_sub) (by krn_off) ?_
    isplit
    refine thn ?_
    rw [hb] at H
    simp only [if_true] at H
    refine TR.subperm (l2 := (L, .frame [("node", some (.int i)), ("is_within", some (.bool true)), ("some", none), ("found", none)]) :: (c_way, .cell (some (.ref w))) :: (c_rows, .cell (some (.ref d))) :: (w, .list (inl r.way.dropLast)) :: l) ?_ (by tb_rel)
    exact key w true r.way.dropLast ((w, .list (inl r.way.dropLast)) :: l) H (by rw [List.length_dropLast]; omega) (.head _) (In.tail hq) (.tail _ hd) (.drop Sb.refl)
  · refine ⟨_, _, _, rfl, .inl (by lcg_sub), ?_⟩
    refine st_cell (by assumption) (by lcg_sub) (by lcg_sub) (by krn_off) ?_
    isplit
    refine thn ?_
    rw [hb] at H
    simp only [Bool.false_eq_true, if_false] at H
    refine TR.subperm (l2 := (L, .frame [("node", some (.int i)), ("is_within", some (.bool false)), ("some", none), ("found", none)]) :: (c_way, .cell (some (.ref r.w))) :: (c_rows, .cell (some (.ref d))) :: l) ?_ (by tb_rel)
    exact key r.w false r.way l H hrw.1 r2 hq hd Sb.refl
end
noncomputable abbrev kidsK : List AV := [.str "element", .str "text", .str "comment", .str "instruction"]
structure SF (t : TreeA) (qs : List RowA) (i : Nat) (r : RowA) (like as : List Nat) : Prop where
  kid : t.chs i = near qs r.way kidsK
  par : inl (t.pars i).toList = pickA (inl r.way) (some ((r.way.length : Int) - 2)) (some ((r.way.length : Int) - 1)) none
  atr : (if t.kinds i = "element" then (t.rows[i]?.map (·.at')).getD [] else []) = near qs r.way [.str "attribute"]
  like1 : 1 < r.way.length → isKid r.kind = true → ∃ (p : Nat) (rp : RowA), qs[p]? = some rp ∧ r.way[r.way.length - 2]? = some p ∧ like = near qs rp.way kidsK
  like0 : ¬ (1 < r.way.length ∧ isKid r.kind = true) → like = []
  beh : t.behindN i = like.filter fun o => decide (i < o)
  ahe : t.aheadN i = like.reverse.filter fun o => decide (o < i)
  ch : Chain t.pars (t.pars i) as
  asl : as.length ≤ 90
  lotl : ((i :: as).flatMap t.lot).length ≤ 100
  lotn : (((i :: as).flatMap t.lot).map t.nam).Nodup
  lotv : ∀ k ∈ (i :: as).flatMap t.lot, t.valu k ≠ ""
  ns : (if t.kinds i = "element" then (i :: as).reverse.flatMap t.lot else []) = (if r.kind = "element" then r.way.flatMap (fun h => near qs (wayL qs h) [.str "namespace"]) else [])
  win : ∀ h ∈ r.way, ∃ rh, qs[h]? = some rh
section
variable {Z : Amb} {A : Around} {l : Led} {X : Value → Shared → Prop}
theorem CP.sub {op : CmpOp} {a b : AV} {l l2 : Led} {Q : Bool → Led → Prop} (hs : Sb l2 l) (h : CP Z A op a b l2 Q X) : CP Z A op a b l Q X := fun va vb e1 e2 => TR.subperm (h va vb e1 e2) hs
theorem ITER.sub {v : AV} {l l2 : Led} {K : Addr → Led → Prop} (hs : Sb l2 l) (h : ITER Z A v l2 K X) : ITER Z A v l K X := fun u e => TR.subperm (h u e) hs
theorem shortRight_ok (P : PX Z) {d : Addr} {t : TreeA} {qs : List RowA} {ep i : Nat} {nd : NodeA} {r : RowA} {like as : List Nat} {Q : AV → Led → Prop} (hT : In (treeLed P t) l) (G : t.Good) (hni : t.rows[i]? = some nd) (hd : (d, .dictI (kvs qs) ep) ∈ l) (hq : In (qsLed qs) l) (hi : qs[i]? = some r)
    (hz : qs.length ≤ 30) (hwz : ∀ q ∈ qs, q.way.length ≤ 30) (F : SF t qs i r like as) (hr : Room A 12) (h : Q (.bool true) l) : CD Z A (.ref (P.fa 33)) [.ref t.x, .ref d, .int i] l Q X := by
  have r1 := row_in1 hq hi
  have r2 := row_in2 hq hi
  have hrw := hwz r (List.mem_of_getElem? hi)
  have hwz' : ∀ q ∈ qs, q.way.length ≤ 50 := fun q hq => Nat.le_trans (hwz q hq) (by decide)
  refine cd_fnC (P.fdef 33 (by decide)).1 (m := [("tree", some (.ref t.x)), ("rows", some (.ref d)), ("kind", none), ("way", none), ("some", none), ("like", none), ("names", none), ("here", none)]) (names := [("tree", .local), ("rows", .local), ("node", .cell), ("kind", .local), ("way", .local), ("some", .local), ("like", .local), ("names", .local), ("here", .local), ("short_axis", .globalImplicit), ("_law_near", .globalImplicit), ("len", .globalImplicit)]) (ps := ["tree", "rows", "node"]) (ks := [false, false, true]) (others := ["kind", "way", "some", "like", "names", "here"]) (cx := [("node", some (.int i))]) (cxk := ["node"]) rfl rfl rfl (fun doc pm cdv ct => bind3 fun v0 v1 v2 => rfl) (by decide) (nodupS (ks := ["tree", "rows", "kind", "way", "some", "like", "names", "here"]) (by decide)) (by intro p hp; simp only [List.mem_cons, List.not_mem_nil, or_false] at hp; rcases hp with rfl <;> rfl) rfl (k := 11) hr ?_
  intro env L A'
  refine cells_all1 fun c_node (hE : EnvIs env L _ [("node", c_node)]) hr' => (?_ : SV Z A' env _ ((L, .frame [("tree", some (.ref t.x)), ("rows", some (.ref d)), ("kind", none), ("way", none), ("some", none), ("like", none), ("names", none), ("here", none)]) :: (c_node, .cell (some (.int i))) :: l) _ _)
  refine s_cons ?_
  refine s_unp2 (Room.hh (by assumption)) ?_
  refine r_sub ?_
  tlg_ne
  nest_room
  refine i_dict (by lcg_sub) (kvAt_kvs hi) ?_
  refine ⟨_, _, _, rfl, .inr (by lcg_sub), ?_⟩
  isplit
  isplit
  refine t_cons ?_
  refine s_assign ?_
  refine r_tuple ?_
  refine a_cons ?_
  refine r_str ?_
  refine a_cons ?_
  refine r_str ?_
  refine a_cons ?_
  refine r_str ?_
  refine a_cons ?_
  refine r_str ?_
  refine a_nil ?_
  refine ⟨by simp, fun kt => ?_⟩
  isplit
  refine t_cons ?_
  refine s_if ?_
  refine t_or2 ?_
  refine t_cmp ?_
  refine r_callf (by assumption) 11 (by decide) (by assumption) (by lcg_sub) ?_ fN11
  refine a_cons ?_
  tlg_ne
  refine a_cons ?_
  nest_room
  refine a_cons ?_
  refine r_str ?_
  refine a_nil ?_
  refine CD.cl (short_ok P (by lcg_src) G hni .child (hr'.le (by decide)) fun c1 => ?_)
  refine r_callf (by assumption) 32 (by decide) (by assumption) (by lcg_sub) ?_ fN32
  refine a_cons ?_
  tlg_ne
  refine a_cons ?_
  nest_room
  refine a_cons ?_
  tlg_ne
  refine a_nil ?_
  refine CD.cl (near_ok P (by lcg_sub) (by lcg_src) (by lcg_sub) (by simp) hi (by omega) hwz' (hr'.le (by decide)) fun c2 => ?_)
  refine c_nel (ns := nl (t.chs i)) (ms := nl (near qs r.way kidsK)) (by lcg_sub) (by lcg_sub) hr'.cl ?_
  rw [dec_nl, F.kid, decide_eq_true rfl]
  refine rb_f rfl ?_
  refine t_cmp ?_
  refine r_callf (by assumption) 11 (by decide) (by assumption) (by lcg_sub) ?_ fN11
  refine a_cons ?_
  tlg_ne
  refine a_cons ?_
  nest_room
  refine a_cons ?_
  refine r_str ?_
  refine a_nil ?_
  refine CD.cl (short_ok P (by lcg_src) G hni .self (hr'.le (by decide)) fun c3 => ?_)
  refine r_list ?_
  refine a_cons ?_
  nest_room
  refine a_nil ?_
  refine ⟨by simp, fun c4 => ?_⟩
  refine c_nel (ns := nl [i]) (ms := nl [i]) (by lcg_sub) (.head _) hr'.cl ?_
  rw [decide_eq_true rfl]
  refine br_f rfl ?_
  refine s_nil ?_
  refine t_cons ?_
  refine s_if ?_
  refine t_cmp ?_
  refine r_callf (by assumption) 11 (by decide) (by assumption) (by lcg_sub) ?_ fN11
  refine a_cons ?_
  tlg_ne
  refine a_cons ?_
  nest_room
  refine a_cons ?_
  refine r_str ?_
  refine a_nil ?_
  refine CD.cl (short_ok P (by lcg_src) G hni .parent (hr'.le (by decide)) fun c5 => ?_)
  refine r_slice ?_
  tlg_ne
  refine eo_some ?_
  refine r_binop ?_
  refine rc_len (by assumption) (by assumption) (by lcg_sub) ?_
  tlg_ne
  refine b_len (by lcg_sub) (by first | exact len_map_le (len_map_le (by omega)) | exact len_map_le (by omega) | (simp only [List.length_map]; omega)) ?_
  refine r_int ?_
  refine o_sub ?_
  refine eo_some ?_
  refine r_binop ?_
  refine rc_len (by assumption) (by assumption) (by lcg_sub) ?_
  tlg_ne
  refine b_len (by lcg_sub) (by first | exact len_map_le (len_map_le (by omega)) | exact len_map_le (by omega) | (simp only [List.length_map]; omega)) ?_
  refine r_int ?_
  refine o_sub ?_
  refine eo_none ?_
  refine ⟨_, _, _, _, _, rfl, by lcg_sub, rfl, rfl, rfl, by simp, by first | exact len_map_le (len_map_le (by omega)) | exact len_map_le (by omega) | (simp only [List.length_map]; omega), fun c6 => ?_⟩
  rw [show ((inl r.way).length : Int) = (r.way.length : Int) by simp, ← F.par]
  refine c_nel (ns := nl (t.pars i).toList) (ms := nl (t.pars i).toList) (by lcg_sub) (by lcg_sub) hr'.cl ?_
  rw [decide_eq_true rfl]
  refine br_f rfl ?_
  refine s_nil ?_
  refine t_cons ?_
  refine s_if ?_
  refine t_cmp ?_
  refine r_callf (by assumption) 11 (by decide) (by assumption) (by lcg_sub) ?_ fN11
  refine a_cons ?_
  tlg_ne
  refine a_cons ?_
  nest_room
  refine a_cons ?_
  refine r_str ?_
  refine a_nil ?_
  refine CD.cl (short_ok P (by lcg_src) G hni .attrs (hr'.le (by decide)) fun c7 => ?_)
  refine r_callf (by assumption) 32 (by decide) (by assumption) (by lcg_sub) ?_ fN32
  refine a_cons ?_
  tlg_ne
  refine a_cons ?_
  nest_room
  refine a_cons ?_
  refine r_tuple ?_
  refine a_cons ?_
  refine r_str ?_
  refine a_nil ?_
  refine ⟨by simp, fun k2 => ?_⟩
  refine a_nil ?_
  refine CD.cl (near_ok P (by lcg_sub) (by lcg_src) (by lcg_sub) (by simp) hi (by omega) hwz' (hr'.le (by decide)) fun c8 => ?_)
  rw [F.atr]
  refine c_nel (ns := nl (near qs r.way [.str "attribute"])) (ms := nl (near qs r.way [.str "attribute"])) (by lcg_sub) (by lcg_sub) hr'.cl ?_
  rw [decide_eq_true rfl]
  refine br_f rfl ?_
  refine s_nil ?_
  refine thn ?_
  refine TR.subperm (l2 := (kt, .tuple kidsK) :: (L, .frame [("tree", some (.ref t.x)), ("rows", some (.ref d)), ("kind", some (.str r.kind)), ("way", some (.ref r.w)), ("some", some (.ref kt)), ("like", none), ("names", none), ("here", none)]) :: (c_node, .cell (some (.int i))) :: l) ?_ (by tb_rel)
  refine s_cons ?_
  refine s_assign ?_
  refine TR.mono (Q := fun (v : AV) l2 => ∃ lk, v = .ref lk ∧ l2 = (lk, .list (inl like)) :: (kt, .tuple kidsK) :: (L, .frame [("tree", some (.ref t.x)), ("rows", some (.ref d)), ("kind", some (.str r.kind)), ("way", some (.ref r.w)), ("some", some (.ref kt)), ("like", none), ("names", none), ("here", none)]) :: (c_node, .cell (some (.int i))) :: l) ?_ ?_
  · refine r_ifexp ?_
    refine t_and2 ?_
    refine t_cmp ?_
    refine rc_len (by assumption) (by assumption) (by lcg_sub) ?_
    tlg_ne
    refine b_len (by lcg_sub) (by first | exact len_map_le (len_map_le (by omega)) | exact len_map_le (by omega) | (simp only [List.length_map]; omega)) ?_
    refine r_int ?_
    refine c_gti ?_
    rw [show decide ((1 : Int) < ((inl r.way).length : Nat)) = decide (1 < r.way.length) by first | exact len_map_le (len_map_le (by omega)) | exact len_map_le (by omega) | (simp; omega)]
    have empty : ¬ (1 < r.way.length ∧ isKid r.kind = true) → EV Z A' env (.List [] ⟨301, 80, 301, 82⟩) ((kt, .tuple kidsK) :: (L, .frame [("tree", some (.ref t.x)), ("rows", some (.ref d)), ("kind", some (.str r.kind)), ("way", some (.ref r.w)), ("some", some (.ref kt)), ("like", none), ("names", none), ("here", none)]) :: (c_node, .cell (some (.int i))) :: l) (fun (v : AV) l2 => ∃ lk, v = .ref lk ∧ l2 = (lk, .list (inl like)) :: (kt, .tuple kidsK) :: (L, .frame [("tree", some (.ref t.x)), ("rows", some (.ref d)), ("kind", some (.str r.kind)), ("way", some (.ref r.w)), ("some", some (.ref kt)), ("like", none), ("names", none), ("here", none)]) :: (c_node, .cell (some (.int i))) :: l) noX := by
      intro hno
      refine r_list ?_
      refine a_nil ?_
      refine ⟨by simp, fun lk => ⟨lk, rfl, ?_⟩⟩
      rw [F.like0 hno]; rfl
    by_cases hl : 1 < r.way.length
    · rw [decide_eq_true hl]
      refine br_t rfl ?_
      refine t_cmp ?_
      tlg_ne
      tlg_ne
      refine c_instr (by lcg_sub) (by simp) ?_
      refine ⟨fun hk => ?_, fun hk => ?_⟩
      · obtain ⟨p, rp, q1, q2, q3⟩ := F.like1 hl hk
        refine r_callf (by assumption) 32 (by decide) (by assumption) (by lcg_sub) ?_ fN32
        refine a_cons ?_
        tlg_ne
        refine a_cons ?_
        refine r_sub ?_
        tlg_ne
        refine r_negc ?_
        refine i_listneg (xs := inl r.way) (v := .int ((p : Nat) : Int)) (by lcg_sub) (by decide) (by first | exact len_map_le (len_map_le (by omega)) | exact len_map_le (by omega) | (simp; omega)) (by decide) ?_ ?_
        · rw [show ((-2 : Int) + (inl r.way).length).toNat = r.way.length - 2 by first | exact len_map_le (len_map_le (by omega)) | exact len_map_le (by omega) | (simp; omega), List.getElem?_map, List.getElem?_map, q2]; rfl
        refine a_cons ?_
        tlg_ne
        refine a_nil ?_
        refine CD.cl (near_ok P (by lcg_sub) (by lcg_src) (by lcg_sub) (by simp) q1 (by omega) hwz' (hr'.le (by decide)) fun c9 => ⟨c9, rfl, by rw [q3]⟩)
      · refine empty fun q => ?_
        have h2 : isKid r.kind = false := hk
        rw [h2] at q
        exact absurd q.2 (by decide)
    · rw [decide_eq_false hl]
      exact br_f rfl ⟨fun e => (by first | exact ctf e | exact cft e), fun _ => empty fun q => hl q.1⟩
  rintro _ _ ⟨lk, rfl, rfl⟩
  have hlk : like.length ≤ 50 := by
    by_cases hl : 1 < r.way.length ∧ isKid r.kind = true
    · obtain ⟨p, rp, _, _, q3⟩ := F.like1 hl.1 hl.2
      rw [q3]
      unfold near
      refine Nat.le_trans (List.length_filter_le _ _) ?_
      rw [List.length_range]; omega
    · rw [F.like0 hl]; exact Nat.zero_le _
  isplit
  refine thn ?_
  refine s_cons ?_
  refine s_if ?_
  refine t_cmp ?_
  refine r_callf (by assumption) 11 (by decide) (by assumption) (by lcg_sub) ?_ fN11
  refine a_cons ?_
  tlg_ne
  refine a_cons ?_
  nest_room
  refine a_cons ?_
  refine r_str ?_
  refine a_nil ?_
  refine CD.cl (short_ok P (by lcg_src) G hni .behind (hr'.le (by decide)) fun c10 => ?_)
  refine r_compF (m := [(".0", none), ("other", none)]) (names' := [("other", .local), ("node", .cell)]) (cells' := [("node", c_node)]) (ck := ["node"]) (ck' := ["node"]) hE rfl rfl (by simp) (by decide) ?_
  tlg_ne
  refine iter_gen (facts := [(lk, .list (inl like)), (c_node, .cell (some (.int i)))]) (base := (c10, .list (inl (t.behindN i))) :: (lk, .list (inl like)) :: (kt, .tuple kidsK) :: (L, .frame [("tree", some (.ref t.x)), ("rows", some (.ref d)), ("kind", some (.str r.kind)), ("way", some (.ref r.w)), ("some", some (.ref kt)), ("like", some (.ref lk)), ("names", none), ("here", none)]) :: (c_node, .cell (some (.int i))) :: l) ?_ (by tb_rel) fun LL hf hsb => ?_
  · intro p hp
    simp only [List.mem_cons, List.not_mem_nil, or_false] at hp
    rcases hp with rfl | rfl <;> lcg_sub
  have hsrc := hf _ (.head _)
  have hcn := hf _ (.tail _ (.head _))
  refine iter_list (by lcg_sub) fun it => ⟨fun l3 hs3 => self_list (hs3.subset (.head _)), fun C D cenv hEc => ?_⟩
  refine inv_comp21 (fun q vo => (like).length - q) (fun q vo => q ≤ (like).length) (fun q vo => (C, .frame [(".0", none), ("other", vo)]) :: (D, .list (inl (((like).take q).filter fun o => decide (i < o)))) :: (it, .liter lk q) :: LL) 0 none Sb.refl (Nat.zero_le _) fun J (hNq : ∀ q vo, q ≤ (like).length → J ((like).length - q) ((C, .frame [(".0", none), ("other", vo)]) :: (D, .list (inl (((like).take q).filter fun o => decide (i < o)))) :: (it, .liter lk q) :: LL)) q vo (hql : q ≤ (like).length) => (?_ : TurnK Z _ _ ((C, .frame [(".0", none), ("other", vo)]) :: (D, .list (inl (((like).take q).filter fun o => decide (i < o)))) :: (it, .liter lk q) :: LL) _ _ _)
  have hxl : (like).length ≤ 50 := by simpa using hlk
  by_cases hq2 : q < (like).length
  · right
    refine (fun k hk => ?_ : ∀ k, (like)[q] = k → _) _ (rfl)
    have htk : (like).take (q + 1) = (like).take q ++ [k] := by rw [List.take_add_one, List.getElem?_eq_getElem hq2, hk]; rfl
    have hfl : (((like).take q).filter fun o => decide (i < o)).length ≤ 50 := by
      refine Nat.le_trans (List.length_filter_le _ _) ?_
      rw [List.length_take]; omega
    refine ⟨.int k, _, next_list (by krn_off) (by lcg_sub) (by rw [List.getElem?_map, List.getElem?_map, List.getElem?_eq_getElem hq2, hk]; rfl), ?_⟩
    isplit
    refine ifs_one ?_
    refine t_cmp ?_
    tlg_ne
    nest_room
    refine c_gti ?_
    cases hc : decide (i < k) with
    | true =>
      rw [show decide ((i : Int) < (k : Nat)) = decide (i < k) by simp, hc]
      refine ⟨fun _ => ?_, fun e => (by first | exact ctf e | exact cft e)⟩
      tlg_ne
      refine ⟨_, _, by krn_off, by first | exact len_map_le (len_map_le (by omega)) | exact len_map_le (by omega) | (simp only [List.length_map]; omega), (like).length - (q + 1), _, dec_lt hq2, ?_, hNq (q + 1) (some (.int k)) hq2⟩
      refine Sb.pick (by l_intsC) (Sb.pick (by (repeat (first | (with_reducible refine Pick.head' ?_) | (with_reducible apply Pick.tail))); refine congrArg AObj.list ?_; rw [htk, List.filter_append, List.filter_cons, hc, List.filter_nil, if_pos rfl, inl_snoc]) ?_)
      tb_rel
    | false =>
      rw [show decide ((i : Int) < (k : Nat)) = decide (i < k) by simp, hc]
      refine ⟨fun e => (by first | exact ctf e | exact cft e), fun _ => ⟨(like).length - (q + 1), _, dec_lt hq2, ?_, hNq (q + 1) (some (.int k)) hq2⟩⟩
      refine Sb.pick (by l_intsC) (Sb.pick (by (repeat (first | (with_reducible refine Pick.head' ?_) | (with_reducible apply Pick.tail))); refine congrArg AObj.list ?_; rw [htk, List.filter_append, List.filter_cons, hc, List.filter_nil, if_neg (by decide), List.append_nil]) ?_)
      tb_rel
  left
  have hqe : q = (like).length := Nat.le_antisymm hql (Nat.le_of_not_lt hq2)
  subst hqe
  rw [List.take_length]
  refine ⟨_, end_list hr'.hh (by lcg_sub) (by lcg_sub) (by first | exact len_map_le (len_map_le (by omega)) | exact len_map_le (by omega) | (simp only [List.length_map]; omega)) (by lcg_off) (by simp), ?_⟩
  refine ⟨_, _, by lcg_sub, by lcg_off, by simp, ?_⟩
  refine CP.sub (l2 := (D, .list (inl (like.filter fun o => decide (i < o)))) :: (c10, .list (inl (t.behindN i))) :: (lk, .list (inl like)) :: (kt, .tuple kidsK) :: (L, .frame [("tree", some (.ref t.x)), ("rows", some (.ref d)), ("kind", some (.str r.kind)), ("way", some (.ref r.w)), ("some", some (.ref kt)), ("like", some (.ref lk)), ("names", none), ("here", none)]) :: (c_node, .cell (some (.int i))) :: l) (.cons hsb) ?_
  refine c_nel (ns := nl (t.behindN i)) (ms := nl (like.filter fun o => decide (i < o))) (by lcg_sub) (by lcg_sub) hr'.cl ?_
  rw [F.beh, decide_eq_true rfl]
  refine br_f rfl ?_
  refine s_nil ?_
  refine thn ?_
  clear hsb hsrc hcn hf hxl hEc
  refine TR.subperm (l2 := (lk, .list (inl like)) :: (kt, .tuple kidsK) :: (L, .frame [("tree", some (.ref t.x)), ("rows", some (.ref d)), ("kind", some (.str r.kind)), ("way", some (.ref r.w)), ("some", some (.ref kt)), ("like", some (.ref lk)), ("names", none), ("here", none)]) :: (c_node, .cell (some (.int i))) :: l) ?_ (by tb_rel)
  refine s_cons ?_
  refine s_if ?_
  refine t_cmp ?_
  refine r_callf (by assumption) 11 (by decide) (by assumption) (by lcg_sub) ?_ fN11
  refine a_cons ?_
  tlg_ne
  refine a_cons ?_
  nest_room
  refine a_cons ?_
  refine r_str ?_
  refine a_nil ?_
  refine CD.cl (short_ok P (by lcg_src) G hni .ahead (hr'.le (by decide)) fun c11 => ?_)
  refine r_compF (m := [(".0", none), ("other", none)]) (names' := [("other", .local), ("node", .cell)]) (cells' := [("node", c_node)]) (ck := ["node"]) (ck' := ["node"]) hE rfl rfl (by simp) (by decide) ?_
  refine r_slice ?_
  tlg_ne
  refine eo_none ?_
  refine eo_none ?_
  refine eo_some ?_
  refine r_negc ?_
  refine ⟨_, _, _, _, _, rfl, by lcg_sub, rfl, rfl, rfl, by decide, by first | exact len_map_le (len_map_le (by omega)) | exact len_map_le (by omega) | (simp only [List.length_map]; omega), fun rv => ?_⟩
  rw [pickA_rev, inl_rev]
  refine iter_gen (facts := [(rv, .list (inl like.reverse)), (c_node, .cell (some (.int i)))]) (base := (c11, .list (inl (t.aheadN i))) :: (lk, .list (inl like)) :: (kt, .tuple kidsK) :: (L, .frame [("tree", some (.ref t.x)), ("rows", some (.ref d)), ("kind", some (.str r.kind)), ("way", some (.ref r.w)), ("some", some (.ref kt)), ("like", some (.ref lk)), ("names", none), ("here", none)]) :: (c_node, .cell (some (.int i))) :: l) ?_ (by tb_rel) fun LL hf hsb => ?_
  · intro p hp
    simp only [List.mem_cons, List.not_mem_nil, or_false] at hp
    rcases hp with rfl | rfl <;> lcg_sub
  have hsrc := hf _ (.head _)
  have hcn := hf _ (.tail _ (.head _))
  refine iter_list (by lcg_sub) fun it => ⟨fun l3 hs3 => self_list (hs3.subset (.head _)), fun C D cenv hEc => ?_⟩
  refine inv_comp21 (fun q vo => (like.reverse).length - q) (fun q vo => q ≤ (like.reverse).length) (fun q vo => (C, .frame [(".0", none), ("other", vo)]) :: (D, .list (inl (((like.reverse).take q).filter fun o => decide (o < i)))) :: (it, .liter rv q) :: LL) 0 none Sb.refl (Nat.zero_le _) fun J (hNq : ∀ q vo, q ≤ (like.reverse).length → J ((like.reverse).length - q) ((C, .frame [(".0", none), ("other", vo)]) :: (D, .list (inl (((like.reverse).take q).filter fun o => decide (o < i)))) :: (it, .liter rv q) :: LL)) q vo (hql : q ≤ (like.reverse).length) => (?_ : TurnK Z _ _ ((C, .frame [(".0", none), ("other", vo)]) :: (D, .list (inl (((like.reverse).take q).filter fun o => decide (o < i)))) :: (it, .liter rv q) :: LL) _ _ _)
  have hxl : (like.reverse).length ≤ 50 := by simpa using hlk
  by_cases hq2 : q < (like.reverse).length
  · right
    refine (fun k hk => ?_ : ∀ k, (like.reverse)[q] = k → _) _ (rfl)
    have htk : (like.reverse).take (q + 1) = (like.reverse).take q ++ [k] := by rw [List.take_add_one, List.getElem?_eq_getElem hq2, hk]; rfl
    have hfl : (((like.reverse).take q).filter fun o => decide (o < i)).length ≤ 50 := by
      refine Nat.le_trans (List.length_filter_le _ _) ?_
      rw [List.length_take]; omega
    refine ⟨.int k, _, next_list (by krn_off) (by lcg_sub) (by rw [List.getElem?_map, List.getElem?_map, List.getElem?_eq_getElem hq2, hk]; rfl), ?_⟩
    isplit
    refine ifs_one ?_
    refine t_cmp ?_
    tlg_ne
    nest_room
    refine c_lti ?_
    cases hc : decide (k < i) with
    | true =>
      rw [show decide (((k : Nat) : Int) < (i : Nat)) = decide (k < i) by simp, hc]
      refine ⟨fun _ => ?_, fun e => (by first | exact ctf e | exact cft e)⟩
      tlg_ne
      refine ⟨_, _, by krn_off, by first | exact len_map_le (len_map_le (by omega)) | exact len_map_le (by omega) | (simp only [List.length_map]; omega), (like.reverse).length - (q + 1), _, dec_lt hq2, ?_, hNq (q + 1) (some (.int k)) hq2⟩
      refine Sb.pick (by l_intsC) (Sb.pick (by (repeat (first | (with_reducible refine Pick.head' ?_) | (with_reducible apply Pick.tail))); refine congrArg AObj.list ?_; rw [htk, List.filter_append, List.filter_cons, hc, List.filter_nil, if_pos rfl, inl_snoc]) ?_)
      tb_rel
    | false =>
      rw [show decide (((k : Nat) : Int) < (i : Nat)) = decide (k < i) by simp, hc]
      refine ⟨fun e => (by first | exact ctf e | exact cft e), fun _ => ⟨(like.reverse).length - (q + 1), _, dec_lt hq2, ?_, hNq (q + 1) (some (.int k)) hq2⟩⟩
      refine Sb.pick (by l_intsC) (Sb.pick (by (repeat (first | (with_reducible refine Pick.head' ?_) | (with_reducible apply Pick.tail))); refine congrArg AObj.list ?_; rw [htk, List.filter_append, List.filter_cons, hc, List.filter_nil, if_neg (by decide), List.append_nil]) ?_)
      tb_rel
  left
  have hqe : q = (like.reverse).length := Nat.le_antisymm hql (Nat.le_of_not_lt hq2)
  subst hqe
  rw [List.take_length]
  refine ⟨_, end_list hr'.hh (by lcg_sub) (by lcg_sub) (by first | exact len_map_le (len_map_le (by omega)) | exact len_map_le (by omega) | (simp only [List.length_map]; omega)) (by lcg_off) (by simp), ?_⟩
  refine ⟨_, _, by lcg_sub, by lcg_off, by simp, ?_⟩
  refine CP.sub (l2 := (D, .list (inl (like.reverse.filter fun o => decide (o < i)))) :: (c11, .list (inl (t.aheadN i))) :: (lk, .list (inl like)) :: (kt, .tuple kidsK) :: (L, .frame [("tree", some (.ref t.x)), ("rows", some (.ref d)), ("kind", some (.str r.kind)), ("way", some (.ref r.w)), ("some", some (.ref kt)), ("like", some (.ref lk)), ("names", none), ("here", none)]) :: (c_node, .cell (some (.int i))) :: l) (.cons hsb) ?_
  refine c_nel (ns := nl (t.aheadN i)) (ms := nl (like.reverse.filter fun o => decide (o < i))) (by lcg_sub) (by lcg_sub) hr'.cl ?_
  rw [F.ahe, decide_eq_true rfl]
  refine br_f rfl ?_
  refine s_nil ?_
  refine thn ?_
  clear hsb hsrc hcn hf hxl hEc
  refine TR.subperm (l2 := (lk, .list (inl like)) :: (kt, .tuple kidsK) :: (L, .frame [("tree", some (.ref t.x)), ("rows", some (.ref d)), ("kind", some (.str r.kind)), ("way", some (.ref r.w)), ("some", some (.ref kt)), ("like", some (.ref lk)), ("names", none), ("here", none)]) :: (c_node, .cell (some (.int i))) :: l) ?_ (by tb_rel)
  generalize hWW : (if r.kind = "element" then r.way else []) = WW
  have hwin : ∀ h ∈ WW, ∃ rh, qs[h]? = some rh := by
    intro h hm
    rw [← hWW] at hm
    split at hm
    · exact F.win h hm
    · cases hm
  have hWl : WW.length ≤ 30 := by
    rw [← hWW]
    split
    · exact hrw
    · exact Nat.zero_le _
  have hns : (if t.kinds i = "element" then (i :: as).reverse.flatMap t.lot else []) = WW.flatMap (fun h => near qs (wayL qs h) [.str "namespace"]) := by
    rw [F.ns, ← hWW]
    split <;> rfl
  have hnl : ∀ j, ((WW.take j).flatMap (fun h => near qs (wayL qs h) [.str "namespace"])).length ≤ 900 := by
    intro j
    have h1 : ∀ h ∈ WW.take j, (near qs (wayL qs h) [.str "namespace"]).length ≤ 30 := fun h _ => by
      unfold near
      refine Nat.le_trans (List.length_filter_le _ _) ?_
      rw [List.length_range]; exact hz
    have h2 : (WW.take j).length ≤ 30 := by rw [List.length_take]; omega
    generalize WW.take j = V at h1 h2
    have : ∀ V : List Nat, (∀ h ∈ V, (near qs (wayL qs h) [.str "namespace"]).length ≤ 30) → (V.flatMap (fun h => near qs (wayL qs h) [.str "namespace"])).length ≤ 30 * V.length := by
      intro V
      induction V with
      | nil => intro _; simp
      | cons x r ih =>
        intro hx
        rw [List.flatMap_cons, List.length_append, List.length_cons]
        have a1 := hx x (.head _)
        have a2 := ih (fun y hy => hx y (.tail _ hy))
        omega
    have := this V h1
    omega
  refine s_cons ?_
  refine s_assign ?_
  refine r_list ?_
  refine a_nil ?_
  refine ⟨by simp, fun na0 => ?_⟩
  isplit
  refine thn ?_
  refine s_cons ?_
  refine s_for ?_
  refine TR.mono (Q := fun (v : AV) l2 => ∃ wa LL, v = .ref wa ∧ (wa, .list (inl WW)) ∈ LL ∧ In l LL ∧ Sb l LL ∧ Sb ((na0, .list []) :: (L, .frame [("tree", some (.ref t.x)), ("rows", some (.ref d)), ("kind", some (.str r.kind)), ("way", some (.ref r.w)), ("some", some (.ref kt)), ("like", some (.ref lk)), ("names", some (.ref na0)), ("here", none)]) :: (c_node, .cell (some (.int i))) :: LL) l2) ?_ ?_
  · refine r_ifexp ?_
    refine t_cmp ?_
    tlg_ne
    refine r_str ?_
    refine c_eqs ⟨fun e => ?_, fun e => ?_⟩
    · have hk := eq_of_beq e
      tlg_ne
      refine ⟨r.w, l, rfl, ?_, In.refl _, Sb.refl, by tb_rel⟩
      rw [← hWW, if_pos hk]; exact r2
    · have hk : r.kind ≠ "element" := fun q => by rw [q] at e; simp at e
      refine r_list ?_
      refine a_nil ?_
      refine ⟨by simp, fun wa => ⟨wa, (wa, .list []) :: l, rfl, ?_, In.tail (In.refl _), .drop Sb.refl, by tb_rel⟩⟩
      rw [← hWW, if_neg hk]; exact .head _
  rintro _ l2 ⟨wa, LL, rfl, hwa, hlL, hlS, hS⟩
  refine ITER.sub hS ?_
  have hT' : In (treeLed P t) LL := fun p hp => hlL p (hT p hp)
  have hq' : In (qsLed qs) LL := fun p hp => hlL p (hq p hp)
  have hd' := hlL _ hd
  clear r1 r2
  refine iter_list (by lcg_sub) fun it => ?_
  refine inv_sb31 (fun j na he => WW.length - j) (fun j na he => j ≤ WW.length) (fun j na he => (it, .liter wa j) :: (na, .list (inl ((WW.take j).flatMap (fun h => near qs (wayL qs h) [.str "namespace"])))) :: (L, .frame [("tree", some (.ref t.x)), ("rows", some (.ref d)), ("kind", some (.str r.kind)), ("way", some (.ref r.w)), ("some", some (.ref kt)), ("like", some (.ref lk)), ("names", some (.ref na)), ("here", he)]) :: (c_node, .cell (some (.int i))) :: LL) 0 na0 none Sb.refl (Nat.zero_le _) fun J (hNj : ∀ j na he, j ≤ WW.length → J (WW.length - j) ((it, .liter wa j) :: (na, .list (inl ((WW.take j).flatMap (fun h => near qs (wayL qs h) [.str "namespace"])))) :: (L, .frame [("tree", some (.ref t.x)), ("rows", some (.ref d)), ("kind", some (.str r.kind)), ("way", some (.ref r.w)), ("some", some (.ref kt)), ("like", some (.ref lk)), ("names", some (.ref na)), ("here", he)]) :: (c_node, .cell (some (.int i))) :: LL)) j na he (hjl : j ≤ WW.length) => (?_ : TurnK Z _ _ ((it, .liter wa j) :: (na, .list (inl ((WW.take j).flatMap (fun h => near qs (wayL qs h) [.str "namespace"])))) :: (L, .frame [("tree", some (.ref t.x)), ("rows", some (.ref d)), ("kind", some (.str r.kind)), ("way", some (.ref r.w)), ("some", some (.ref kt)), ("like", some (.ref lk)), ("names", some (.ref na)), ("here", he)]) :: (c_node, .cell (some (.int i))) :: LL) _ _ _)
  have hj0 := hnl j
  by_cases hj : j < WW.length
  · right
    refine (fun k hk => ?_ : ∀ k, WW[j] = k → _) _ (rfl)
    obtain ⟨rk, hrk⟩ := hwin k (hk ▸ List.getElem_mem hj)
    have htk : WW.take (j + 1) = WW.take j ++ [k] := by rw [List.take_add_one, List.getElem?_eq_getElem hj, hk]; rfl
    have hnk : (near qs rk.way [.str "namespace"]).length ≤ 30 := by
      unfold near
      refine Nat.le_trans (List.length_filter_le _ _) ?_
      rw [List.length_range]; exact hz
    refine ⟨.int k, _, next_list (by krn_off) (by lcg_sub) (by rw [List.getElem?_map, List.getElem?_map, List.getElem?_eq_getElem hj, hk]; rfl), ?_⟩
    isplit
    refine s_cons ?_
    refine s_assign ?_
    refine r_binop ?_
    tlg_ne
    refine r_callf (by assumption) 32 (by decide) (by assumption) (by lcg_sub) ?_ fN32
    refine a_cons ?_
    tlg_ne
    refine a_cons ?_
    tlg_ne
    refine a_cons ?_
    refine r_tuple ?_
    refine a_cons ?_
    refine r_str ?_
    refine a_nil ?_
    refine ⟨by simp, fun k3 => ?_⟩
    refine a_nil ?_
    refine CD.cl (near_ok P (by lcg_sub) (by lcg_src) (by lcg_sub) (by simp) hrk (by omega) hwz' (hr'.le (by decide)) fun c12 => ?_)
    refine o_addl (xs := inl ((WW.take j).flatMap (fun h => near qs (wayL qs h) [.str "namespace"]))) (ys := inl (near qs rk.way [.str "namespace"])) (by lcg_sub) (by lcg_sub) (by first | exact len_map_le (len_map_le (by omega)) | exact len_map_le (by omega) | (simp only [List.length_map]; omega)) (by first | exact len_map_le (len_map_le (by omega)) | exact len_map_le (by omega) | (simp only [List.length_map]; omega)) fun n2 => ?_
    isplit
    refine t_nil ?_
    refine ⟨WW.length - (j + 1), _, dec_lt hj, ?_, hNj (j + 1) n2 (some (.int k)) hj⟩
    refine Sb.pick (by l_intsC) (Sb.pick (by (repeat (first | (with_reducible refine Pick.head' ?_) | (with_reducible apply Pick.tail))); refine congrArg AObj.list ?_; rw [htk, List.flatMap_append, List.flatMap_cons, List.flatMap_nil, List.append_nil, wayL_of hrk, inl_app]) ?_)
    tb_rel
  · left
    have hje : j = WW.length := Nat.le_antisymm hjl (Nat.le_of_not_lt hj)
    subst hje
    rw [List.take_length] at hj0 ⊢
    refine ⟨_, end_list hr'.hh (by lcg_sub) (by lcg_sub) (by first | exact len_map_le (len_map_le (by omega)) | exact len_map_le (by omega) | (simp only [List.length_map]; omega)) (by lcg_off) (by simp), ?_⟩
    refine t_cons ?_
    refine s_ret ?_
    refine r_cmp ?_
    refine r_callf (by assumption) 11 (by decide) (by assumption) (by lcg_sub) ?_ fN11
    refine a_cons ?_
    tlg_ne
    refine a_cons ?_
    nest_room
    refine a_cons ?_
    refine r_str ?_
    refine a_nil ?_
    refine CD.cl (short_ok P (by lcg_src) G hni (.ns F.ch F.asl F.lotl F.lotn F.lotv) (hr'.le (by decide)) fun c13 => ?_)
    rw [hns]
    tlg_ne
    refine c_eql (ns := nl (WW.flatMap (fun h => near qs (wayL qs h) [.str "namespace"]))) (ms := nl (WW.flatMap (fun h => near qs (wayL qs h) [.str "namespace"]))) (by lcg_sub) (by lcg_sub) hr'.cl ?_
    rw [decide_eq_true rfl]
    refine thr ?_
    exact ⟨_, .drop (.drop (.drop (.drop hlS))), h⟩
end
noncomputable def Inc (a b : List Nat) : Prop := ∃ p x y u v, a = p ++ x :: u ∧ b = p ++ y :: v ∧ x < y
theorem Inc.ext {a b : List Nat} (h : Inc a b) (c d : List Nat) : Inc (a ++ c) (b ++ d) := by
  obtain ⟨p, x, y, u, v, rfl, rfl, hxy⟩ := h
  exact ⟨p, x, y, u ++ c, v ++ d, by simp, by simp, hxy⟩
theorem ltI_app : ∀ (p a b : List Int), ltI (p ++ a) (p ++ b) = ltI a b
  | [], _, _ => rfl
  | x :: p, a, b => by
    show ltI (x :: (p ++ a)) (x :: (p ++ b)) = _
    rw [ltI, if_pos rfl]; exact ltI_app p a b
theorem Inc.lt {a b : List Nat} (h : Inc a b) : ltI (nl a) (nl b) = true := by
  obtain ⟨p, x, y, u, v, rfl, rfl, hxy⟩ := h
  show ltI (nl (p ++ x :: u)) (nl (p ++ y :: v)) = true
  have e : ∀ q : List Nat, nl (p ++ q) = nl p ++ nl q := fun q => by simp [nl]
  rw [e, e, ltI_app]
  show ltI ((x : Int) :: nl u) ((y : Int) :: nl v) = true
  rw [ltI, if_neg (by omega)]
  exact decide_eq_true (by omega)
theorem pre_lt {a : List Nat} {x : Nat} {c : List Nat} : ltI (nl a) (nl (a ++ x :: c)) = true := by
  have e : nl (a ++ x :: c) = nl a ++ nl (x :: c) := by simp [nl]
  have e0 : nl a = nl a ++ [] := by simp
  rw [e]
  conv => lhs; arg 1; rw [e0]
  rw [ltI_app]
  rfl
theorem part_or : ∀ (a b : List Nat), (∃ c, b = a ++ c) ∨ (∃ c, a = b ++ c) ∨ Inc a b ∨ Inc b a
  | [], b => .inl ⟨b, rfl⟩
  | x :: a, [] => .inr (.inl ⟨x :: a, rfl⟩)
  | x :: a, y :: b => by
    by_cases e : x = y
    · subst e
      rcases part_or a b with ⟨c, h⟩ | ⟨c, h⟩ | h | h
      · exact .inl ⟨c, by rw [h]; rfl⟩
      · exact .inr (.inl ⟨c, by rw [h]; rfl⟩)
      · obtain ⟨p, y, z, u, v, h1, h2, h3⟩ := h
        exact .inr (.inr (.inl ⟨x :: p, y, z, u, v, by rw [h1]; rfl, by rw [h2]; rfl, h3⟩))
      · obtain ⟨p, y, z, u, v, h1, h2, h3⟩ := h
        exact .inr (.inr (.inr ⟨x :: p, y, z, u, v, by rw [h1]; rfl, by rw [h2]; rfl, h3⟩))
    · rcases Nat.lt_or_gt_of_ne e with h | h
      · exact .inr (.inr (.inl ⟨[], x, y, a, b, rfl, rfl, h⟩))
      · exact .inr (.inr (.inr ⟨[], y, x, b, a, rfl, rfl, h⟩))
theorem Forest.app {ch : Nat → List Nat} {a b d1 d2 : List Nat} (h : Forest ch a d1) (h2 : Forest ch b d2) : Forest ch (a ++ b) (d1 ++ d2) := by
  induction h with
  | nil => exact h2
  | @cons i r ds _ ih =>
    have h3 : Forest ch (ch i ++ (r ++ b)) (ds ++ d2) := by rw [← List.append_assoc]; exact ih
    exact .cons h3
theorem Forest.exists {ch : Nat → List Nat} {n : Nat} (hc : ∀ i k, k ∈ ch i → i < k ∧ k < n) : ∀ (m : Nat) (st : List Nat), (∀ k ∈ st, n - k ≤ m) → ∃ ds, Forest ch st ds := by
  intro m
  induction m with
  | zero =>
    intro st hst
    induction st with
    | nil => exact ⟨[], .nil⟩
    | cons i r ih =>
      obtain ⟨d2, h2⟩ := ih fun k hk => hst k (.tail _ hk)
      have h1 := hst i (.head _)
      have e : ch i = [] := by
        rw [List.eq_nil_iff_forall_not_mem]
        intro k hk
        have := hc i k hk
        omega
      exact ⟨i :: d2, .cons (by rw [e]; exact h2)⟩
  | succ m ihm =>
    intro st hst
    induction st with
    | nil => exact ⟨[], .nil⟩
    | cons i r ih =>
      obtain ⟨d2, h2⟩ := ih fun k hk => hst k (.tail _ hk)
      obtain ⟨d1, h1⟩ := ihm (ch i) fun k hk => by
        have h3 := hc i k hk
        have h4 := hst i (.head _)
        omega
      exact ⟨i :: (d1 ++ d2), .cons (h1.app h2)⟩
theorem Inc.ext1 {a b : List Nat} (h : Inc a b) {c d : List Nat} (hc : ∃ e, c = a ++ e) (hd : ∃ e, d = b ++ e) : Inc c d := by
  obtain ⟨e, rfl⟩ := hc
  obtain ⟨f, rfl⟩ := hd
  exact h.ext e f
noncomputable def Inc1 (a b : List Nat) : Prop := ∃ p x y u v, p ≠ [] ∧ a = p ++ x :: u ∧ b = p ++ y :: v ∧ x < y
theorem Inc1.inc {a b : List Nat} (h : Inc1 a b) : Inc a b := by
  obtain ⟨p, x, y, u, v, _, h1, h2, h3⟩ := h
  exact ⟨p, x, y, u, v, h1, h2, h3⟩
theorem inc1_right {a b : List Nat} {h : Nat} (ha : a ≠ []) : Inc1 (a ++ [h]) b ↔ ((∃ y v, b = a ++ y :: v ∧ h < y) ∨ Inc1 a b) := by
  constructor
  · rintro ⟨p, x, y, u, v, h1, h2, h3, h4⟩
    rcases List.eq_nil_or_concat u with rfl | ⟨u', z, rfl⟩
    · obtain ⟨e1, e2⟩ := List.append_inj' h2 rfl
      simp only [List.cons.injEq, and_true] at e2
      subst e1 e2
      exact .inl ⟨y, v, h3, h4⟩
    · have : a ++ [h] = (p ++ x :: u') ++ [z] := by rw [h2]; simp
      exact .inr ⟨p, x, y, u', v, h1, (List.append_inj' this rfl).1, h3, h4⟩
  · rintro (⟨y, v, e, hy⟩ | ⟨p, x, y, u, v, h1, h2, h3, h4⟩)
    · exact ⟨a, h, y, [], v, ha, rfl, e, hy⟩
    · exact ⟨p, x, y, u ++ [h], v, h1, by rw [h2]; simp, h3, h4⟩
theorem inc1_left {a b : List Nat} {h : Nat} (ha : a ≠ []) : Inc1 b (a ++ [h]) ↔ ((∃ y v, b = a ++ y :: v ∧ y < h) ∨ Inc1 b a) := by
  constructor
  · rintro ⟨p, x, y, u, v, h1, h2, h3, h4⟩
    rcases List.eq_nil_or_concat v with rfl | ⟨v', z, rfl⟩
    · obtain ⟨e1, e2⟩ := List.append_inj' h3 rfl
      simp only [List.cons.injEq, and_true] at e2
      subst e1 e2
      exact .inl ⟨x, u, h2, h4⟩
    · have : a ++ [h] = (p ++ y :: v') ++ [z] := by rw [h3]; simp
      exact .inr ⟨p, x, y, u, v', h1, h2, (List.append_inj' this rfl).1, h4⟩
  · rintro (⟨y, v, e, hy⟩ | ⟨p, x, y, u, v, h1, h2, h3, h4⟩)
    · exact ⟨a, y, h, v, [], ha, e, rfl, hy⟩
    · exact ⟨p, x, y, u, v ++ [h], h1, h2, by rw [h3]; simp, h4⟩
structure Ways (t : TreeA) (V : Nat → List Nat) : Prop where
  wf : Wf t
  way : ∀ i, i < t.rows.length → WayIs t i (V i)
section
variable {t : TreeA} {V : Nat → List Nat} (H : Ways t V)
include H
theorem Ways.step {i p : Nat} (h : t.pars i = some p) : V i = V p ++ [i] := by
  have hl := H.wf.pars_lt h
  obtain ⟨as, hC, e⟩ := H.way i hl.2
  obtain ⟨bs, hC2, e2⟩ := H.way p (by omega)
  rw [h] at hC
  cases hC with
  | cons hC =>
    have := hC.func hC2
    subst this
    rw [e, e2]
    simp
theorem Ways.top {i : Nat} (hi : i < t.rows.length) (h : t.pars i = none) : V i = [i] := by
  obtain ⟨as, hC, e⟩ := H.way i hi
  rw [h] at hC
  cases hC
  exact e
theorem Ways.snoc {i : Nat} (hi : i < t.rows.length) : ∃ p, V i = p ++ [i] := by
  obtain ⟨as, _, e⟩ := H.way i hi
  exact ⟨as.reverse, e⟩
theorem Ways.ne {i : Nat} (hi : i < t.rows.length) : V i ≠ [] := by
  obtain ⟨p, e⟩ := H.snoc hi
  rw [e]; simp
theorem Ways.last {i : Nat} (hi : i < t.rows.length) : (V i).getLastD 0 = i := by
  obtain ⟨p, e⟩ := H.snoc hi
  rw [e]; simp
theorem Ways.inj {i j : Nat} (hi : i < t.rows.length) (hj : j < t.rows.length) (h : V i = V j) : i = j := by
  rw [← H.last hi, ← H.last hj, h]
theorem Ways.split : ∀ (i : Nat), i < t.rows.length → ∀ (p : List Nat) (x : Nat) (u : List Nat), V i = p ++ x :: u → x < t.rows.length ∧ V x = p ++ [x] := by
  intro i
  induction i using Nat.strongRecOn with
  | ind i ih =>
    intro hi p x u e
    rcases List.eq_nil_or_concat u with rfl | ⟨u', z, rfl⟩
    · obtain ⟨q, e2⟩ := H.snoc hi
      have h2 : p ++ [x] = q ++ [i] := by rw [← e, e2]
      have h3 := List.append_inj' h2 rfl
      simp only [List.cons.injEq, and_true] at h3
      have hx : x = i := h3.2
      subst hx
      exact ⟨hi, e⟩
    · cases hp : t.pars i with
      | none =>
        rw [H.top hi hp] at e
        have := congrArg List.length e
        simp at this
        omega
      | some k =>
        have hk := H.wf.pars_lt hp
        have h2 : V k ++ [i] = (p ++ x :: u') ++ [z] := by rw [← H.step hp, e]; simp
        have h3 := (List.append_inj' h2 rfl).1
        exact ih k hk.1 (by omega) p x u' h3
theorem Ways.pars {x : Nat} {p : List Nat} (hx : x < t.rows.length) (e : V x = p ++ [x]) (hp : p ≠ []) : ∃ k, t.pars x = some k ∧ V k = p ∧ k < t.rows.length := by
  cases h : t.pars x with
  | none =>
    rw [H.top hx h] at e
    have := congrArg List.length e
    simp at this
    exact absurd this hp
  | some k =>
    have hk := H.wf.pars_lt h
    refine ⟨k, rfl, ?_, by omega⟩
    have := H.step h
    rw [e] at this
    exact ((List.append_inj' this rfl).1).symm
theorem Ways.kid_of {i k : Nat} (h : k ∈ t.chs i) : k < t.rows.length ∧ t.pars k = some i ∧ beside (t.kinds k) = false ∧ i < k := by
  unfold TreeA.chs at h
  cases e : t.rows[i]? with
  | none => rw [e] at h; simp at h
  | some nd =>
    rw [e] at h
    have h' : k ∈ nd.ch := h
    rw [H.wf.ch i nd e] at h'
    obtain ⟨h1, h2, h3⟩ := mem_under.mp h'
    refine ⟨h1, h2, by simpa using h3, (H.wf.pars_lt h2).1⟩
theorem Ways.of_kid {i k : Nat} (hk : k < t.rows.length) (hp : t.pars k = some i) (hb : beside (t.kinds k) = false) : k ∈ t.chs i := by
  have hi := H.wf.pars_lt hp
  obtain ⟨nd, hnd⟩ : ∃ nd, t.rows[i]? = some nd := ⟨_, List.getElem?_eq_getElem (by omega)⟩
  rw [chs_of hnd, H.wf.ch i nd hnd]
  exact mem_under.mpr ⟨hk, hp, by rw [hb]; rfl⟩
theorem Ways.chs_sorted (i : Nat) : (t.chs i).Pairwise (· < ·) := by
  unfold TreeA.chs
  cases e : t.rows[i]? with
  | none => simp
  | some nd =>
    show nd.ch.Pairwise _
    rw [H.wf.ch i nd e]
    exact List.Pairwise.filter _ List.pairwise_lt_range
theorem Ways.forest (st : List Nat) (hst : ∀ k ∈ st, k < t.rows.length) : ∃ ds, Forest t.chs st ds :=
  Forest.exists (n := t.rows.length) (fun i k hk => ⟨(H.kid_of hk).2.2.2, (H.kid_of hk).1⟩) t.rows.length st (fun k _ => by omega)
theorem Ways.par_of {i k : Nat} {p : List Nat} (hi : i < t.rows.length) (hk : k < t.rows.length) (e : V k = V i ++ [k]) : t.pars k = some i := by
  obtain ⟨j, h1, h2, h3⟩ := H.pars hk e (H.ne hi)
  rw [H.inj h3 hi h2] at h1
  exact h1
theorem Ways.nonbeside {k i : Nat} (h : t.pars k = some i) : beside (t.kinds i) = false := by
  obtain ⟨h1, h2⟩ := H.wf.pars_lt h
  obtain ⟨nd, hnd⟩ : ∃ nd, t.rows[k]? = some nd := ⟨_, List.getElem?_eq_getElem h2⟩
  rw [pars_of hnd] at h
  have : t.kinds i = "root" ∨ t.kinds i = "element" := by
    cases hb : beside nd.kind with
    | true => exact .inr (H.wf.own k nd hnd i h hb)
    | false => exact H.wf.kid k nd hnd i h hb
  rcases this with e | e <;> rw [e] <;> decide
theorem Ways.first {i d y : Nat} {v : List Nat} (hi : i < t.rows.length) (hd : d < t.rows.length) (hb : beside (t.kinds d) = false) (e : V d = V i ++ y :: v) : y ∈ t.chs i ∧ V y = V i ++ [y] ∧ y < t.rows.length := by
  obtain ⟨h1, h2⟩ := H.split d hd (V i) y v e
  have hp := H.par_of (p := []) hi h1 h2
  refine ⟨H.of_kid h1 hp ?_, h2, h1⟩
  cases v with
  | nil =>
    have : y = d := H.inj h1 hd (by rw [h2, e])
    rw [this]; exact hb
  | cons z w =>
    obtain ⟨h3, h4⟩ := H.split d hd (V i ++ [y]) z w (by rw [e]; simp)
    exact H.nonbeside (H.par_of (p := []) h1 h3 (by rw [h4, h2]))
noncomputable def Below (t : TreeA) (V : Nat → List Nat) (s d : Nat) : Prop := d = s ∨ (beside (t.kinds d) = false ∧ ∃ c, V d = V s ++ c)
theorem Ways.below_iff {i d : Nat} (hi : i < t.rows.length) (hd : d < t.rows.length) : Below t V i d ↔ (d = i ∨ ∃ s ∈ t.chs i, Below t V s d) := by
  constructor
  · rintro (h | ⟨hb, c, e⟩)
    · exact .inl h
    · cases c with
      | nil => exact .inl (H.inj hd hi (by rw [e, List.append_nil]))
      | cons y v =>
        obtain ⟨h1, h2, _⟩ := H.first hi hd hb e
        exact .inr ⟨y, h1, .inr ⟨hb, v, by rw [e, h2]; simp⟩⟩
  · rintro (h | ⟨s, hs, h⟩)
    · exact .inl h
    · obtain ⟨k1, k2, k3, _⟩ := H.kid_of hs
      have e := H.step k2
      rcases h with rfl | ⟨hb, c, e2⟩
      · exact .inr ⟨k3, [d], e⟩
      · exact .inr ⟨hb, s :: c, by rw [e2, e]; simp⟩
theorem Ways.forest_mem {st ds : List Nat} (h : Forest t.chs st ds) : (∀ k ∈ st, k < t.rows.length) → ∀ d, d ∈ ds ↔ (d < t.rows.length ∧ ∃ s ∈ st, Below t V s d) := by
  induction h with
  | nil => intro _ d; simp
  | @cons i r ds hF ih =>
    intro hst d
    have hi := hst i (.head _)
    have ih := ih (fun k hk => by
      rcases List.mem_append.mp hk with hk | hk
      · exact (H.kid_of hk).1
      · exact hst k (.tail _ hk)) d
    rw [List.mem_cons, ih]
    constructor
    · rintro (rfl | ⟨hd, s, hs, hb⟩)
      · exact ⟨hi, d, .head _, .inl rfl⟩
      · refine ⟨hd, ?_⟩
        rcases List.mem_append.mp hs with hs | hs
        · exact ⟨i, .head _, (H.below_iff hi hd).mpr (.inr ⟨s, hs, hb⟩)⟩
        · exact ⟨s, .tail _ hs, hb⟩
    · rintro ⟨hd, s, hs, hb⟩
      rcases List.mem_cons.mp hs with rfl | hs
      · rcases (H.below_iff hi hd).mp hb with e | ⟨s, hs, hb⟩
        · exact .inl e
        · exact .inr ⟨hd, s, List.mem_append.mpr (.inl hs), hb⟩
      · exact .inr ⟨hd, s, List.mem_append.mpr (.inr hs), hb⟩
theorem Ways.kids_inc {i : Nat} : (t.chs i).Pairwise (fun a b => Inc (V a) (V b)) := by
  refine (H.chs_sorted i).imp_of_mem fun {a b} ha hb hab => ?_
  rw [H.step (H.kid_of ha).2.1, H.step (H.kid_of hb).2.1]
  exact ⟨V i, a, b, [], [], rfl, rfl, hab⟩
theorem Ways.forest_lt {st ds : List Nat} (h : Forest t.chs st ds) : (∀ k ∈ st, k < t.rows.length) → st.Pairwise (fun a b => Inc (V a) (V b)) → ds.Pairwise (fun a b => ltI (nl (V a)) (nl (V b)) = true) ∧ ∀ d ∈ ds, ∃ s ∈ st, ∃ c, V d = V s ++ c := by
  induction h with
  | nil => intro _ _; exact ⟨.nil, by simp⟩
  | @cons i r ds hF ih =>
    intro hst hp
    have hi := hst i (.head _)
    rw [List.pairwise_cons] at hp
    have ext : ∀ a ∈ t.chs i, V a = V i ++ [a] := fun a ha => H.step (H.kid_of ha).2.1
    obtain ⟨ih1, ih2⟩ := ih (fun k hk => by
      rcases List.mem_append.mp hk with hk | hk
      · exact (H.kid_of hk).1
      · exact hst k (.tail _ hk)) (by
      rw [List.pairwise_append]
      exact ⟨H.kids_inc, hp.2, fun a ha b hb => (hp.1 b hb).ext1 ⟨[a], ext a ha⟩ ⟨[], by simp⟩⟩)
    refine ⟨?_, ?_⟩
    · rw [List.pairwise_cons]
      refine ⟨fun d hd => ?_, ih1⟩
      obtain ⟨s, hs, c, e⟩ := ih2 d hd
      rcases List.mem_append.mp hs with hs | hs
      · rw [e, ext s hs, List.append_assoc]
        exact pre_lt
      · exact ((hp.1 s hs).ext1 ⟨[], by simp⟩ ⟨c, e⟩).lt
    · intro d hd
      rcases List.mem_cons.mp hd with rfl | hd
      · exact ⟨d, .head _, [], by simp⟩
      · obtain ⟨s, hs, c, e⟩ := ih2 d hd
        rcases List.mem_append.mp hs with hs | hs
        · exact ⟨i, .head _, s :: c, by rw [e, ext s hs]; simp⟩
        · exact ⟨s, .tail _ hs, c, e⟩
end
theorem drop_mem : ∀ {xs : List Nat}, xs.Pairwise (· < ·) → ∀ {h k : Nat}, h ∈ xs → (k ∈ xs.drop (xs.idxOf h + 1) ↔ k ∈ xs ∧ h < k)
  | [], _, _, _, hm => (nomatch hm)
  | x :: r, hp, h, k, hm => by
    rw [List.pairwise_cons] at hp
    by_cases e : x = h
    · subst e
      rw [List.idxOf_cons_self, List.drop_succ_cons, List.drop_zero, List.mem_cons]
      constructor
      · intro hk; exact ⟨.inr hk, hp.1 k hk⟩
      · rintro ⟨rfl | hk, hlt⟩
        · omega
        · exact hk
    · rw [List.idxOf_cons, beq_false_of_ne e]
      have hm' : h ∈ r := by
        rcases List.mem_cons.mp hm with q | q
        · exact absurd q.symm e
        · exact q
      show k ∈ (x :: r).drop (r.idxOf h + 1 + 1) ↔ _
      rw [List.drop_succ_cons, drop_mem hp.2 hm', List.mem_cons]
      have := hp.1 h hm'
      constructor
      · rintro ⟨h1, h2⟩; exact ⟨.inr h1, h2⟩
      · rintro ⟨rfl | h1, h2⟩
        · omega
        · exact ⟨h1, h2⟩
theorem take_mem : ∀ {xs : List Nat}, xs.Pairwise (· < ·) → ∀ {h k : Nat}, h ∈ xs → (k ∈ xs.take (xs.idxOf h) ↔ k ∈ xs ∧ k < h)
  | [], _, _, _, hm => (nomatch hm)
  | x :: r, hp, h, k, hm => by
    rw [List.pairwise_cons] at hp
    by_cases e : x = h
    · subst e
      rw [List.idxOf_cons_self, List.take_zero, List.mem_cons]
      constructor
      · intro hk; exact (nomatch hk)
      · rintro ⟨rfl | hk, hlt⟩
        · omega
        · have := hp.1 k hk; omega
    · rw [List.idxOf_cons, beq_false_of_ne e]
      have hm' : h ∈ r := by
        rcases List.mem_cons.mp hm with q | q
        · exact absurd q.symm e
        · exact q
      show k ∈ (x :: r).take (r.idxOf h + 1) ↔ _
      rw [List.take_succ_cons, List.mem_cons, take_mem hp.2 hm', List.mem_cons]
      have := hp.1 h hm'
      constructor
      · rintro (rfl | ⟨h1, h2⟩)
        · exact ⟨.inl rfl, this⟩
        · exact ⟨.inr h1, h2⟩
      · rintro ⟨rfl | h1, h2⟩
        · exact .inl rfl
        · exact .inr ⟨h1, h2⟩
section
variable {t : TreeA} {V : Nat → List Nat} (H : Ways t V)
include H
theorem Ways.run_mem {p : Nat} {st ds : List Nat} {c : Nat → Prop} (hp : p < t.rows.length) (hF : Forest t.chs st ds) (hst : ∀ k, k ∈ st ↔ k ∈ t.chs p ∧ c k) (d : Nat) :
    d ∈ ds ↔ (d < t.rows.length ∧ beside (t.kinds d) = false ∧ ∃ y v, V d = V p ++ y :: v ∧ c y) := by
  rw [H.forest_mem hF (fun k hk => (H.kid_of ((hst k).mp hk).1).1)]
  constructor
  · rintro ⟨hd, s, hs, hb⟩
    obtain ⟨h1, h2⟩ := (hst s).mp hs
    obtain ⟨k1, k2, k3, _⟩ := H.kid_of h1
    have e := H.step k2
    rcases hb with rfl | ⟨hb, w, e2⟩
    · exact ⟨hd, k3, d, [], e, h2⟩
    · exact ⟨hd, hb, s, w, by rw [e2, e]; simp, h2⟩
  · rintro ⟨hd, hb, y, v, e, hc⟩
    obtain ⟨h1, h2, _⟩ := H.first hp hd hb e
    exact ⟨hd, y, (hst y).mpr ⟨h1, hc⟩, .inr ⟨hb, v, by rw [e, h2]; simp⟩⟩
theorem Ways.behind_iff {h p : Nat} (hh : h < t.rows.length) (hp : t.pars h = some p) (hb : beside (t.kinds h) = false) : (∀ k, k ∈ t.behindN h ↔ k ∈ t.chs p ∧ h < k) ∧ (t.behindN h).Pairwise (fun a b => Inc (V a) (V b)) := by
  obtain ⟨nd, hnd⟩ : ∃ nd, t.rows[h]? = some nd := ⟨_, List.getElem?_eq_getElem hh⟩
  rw [pars_of hnd] at hp
  rw [kinds_of hnd] at hb
  have e : t.behindN h = (t.chs p).drop ((t.chs p).idxOf h + 1) := by
    rw [behindN_of hnd]; unfold TreeA.behind; rw [hp]; dsimp only; rw [hb]; rfl
  rw [e]
  refine ⟨fun k => drop_mem (H.chs_sorted p) (H.of_kid hh (by rw [pars_of hnd]; exact hp) (by rw [kinds_of hnd]; exact hb)), ?_⟩
  exact H.kids_inc.sublist (List.drop_sublist _ _)
theorem Ways.ahead_iff {h p : Nat} (hh : h < t.rows.length) (hp : t.pars h = some p) (hb : beside (t.kinds h) = false) : (∀ k, k ∈ t.aheadN h ↔ k ∈ t.chs p ∧ k < h) ∧ (t.aheadN h).Pairwise (fun a b => Inc (V b) (V a)) := by
  obtain ⟨nd, hnd⟩ : ∃ nd, t.rows[h]? = some nd := ⟨_, List.getElem?_eq_getElem hh⟩
  rw [pars_of hnd] at hp
  rw [kinds_of hnd] at hb
  have e : t.aheadN h = ((t.chs p).take ((t.chs p).idxOf h)).reverse := by
    rw [aheadN_of hnd]; unfold TreeA.ahead; rw [hp]; dsimp only; rw [hb]; rfl
  rw [e]
  refine ⟨fun k => ?_, ?_⟩
  · rw [List.mem_reverse]
    exact take_mem (H.chs_sorted p) (H.of_kid hh (by rw [pars_of hnd]; exact hp) (by rw [kinds_of hnd]; exact hb))
  · rw [List.pairwise_reverse]
    exact H.kids_inc.sublist (List.take_sublist _ _)
theorem Ways.none_iff {h : Nat} (hh : h < t.rows.length) (hp : t.pars h = none) : t.behindN h = [] ∧ t.aheadN h = [] := by
  obtain ⟨nd, hnd⟩ : ∃ nd, t.rows[h]? = some nd := ⟨_, List.getElem?_eq_getElem hh⟩
  rw [pars_of hnd] at hp
  rw [behindN_of hnd, aheadN_of hnd]
  unfold TreeA.behind TreeA.ahead
  rw [hp]
  exact ⟨rfl, rfl⟩
theorem Ways.not_inc1 {h : Nat} (hh : h < t.rows.length) (hp : t.pars h = none) (x : List Nat) : ¬ Inc1 (V h) x ∧ ¬ Inc1 x (V h) := by
  rw [H.top hh hp]
  constructor
  · rintro ⟨p, x, y, u, v, h1, h2, _⟩
    have := congrArg List.length h2
    have := List.length_pos_iff.mpr h1
    simp at *
    omega
  · rintro ⟨p, x, y, u, v, h1, _, h2, _⟩
    have := congrArg List.length h2
    have := List.length_pos_iff.mpr h1
    simp at *
    omega
theorem Ways.prefix_lt {p a b : Nat} (hp : p < t.rows.length) (ha : ∃ c, V a = V p ++ c) (hb : Inc (V p) (V b)) : ltI (nl (V a)) (nl (V b)) = true := (hb.ext1 ha ⟨[], by simp⟩).lt
theorem Ways.folR : ∀ (h : Nat) (as out : List Nat), h < t.rows.length → beside (t.kinds h) = false → Chain t.pars (t.pars h) as → FolR t (h :: as) out →
    out.Pairwise (fun a b => ltI (nl (V a)) (nl (V b)) = true) ∧ ∀ d, d ∈ out ↔ (d < t.rows.length ∧ beside (t.kinds d) = false ∧ Inc1 (V h) (V d)) := by
  intro h as
  induction as generalizing h with
  | nil =>
    intro out hh hb hC hR
    have hp : t.pars h = none := by
      cases e : t.pars h with
      | none => rfl
      | some p => rw [e] at hC; cases hC
    cases hR with
    | cons hF hr =>
      cases hr
      rw [(H.none_iff hh hp).1] at hF
      cases hF
      refine ⟨.nil, fun d => ?_⟩
      constructor
      · intro q; exact absurd q (by simp)
      · rintro ⟨_, _, q⟩
        exact absurd q (H.not_inc1 hh hp _).1
  | cons p as ih =>
    intro out hh hb hC hR
    obtain ⟨hp, hC'⟩ : t.pars h = some p ∧ Chain t.pars (t.pars p) as := by
      generalize t.pars h = o at hC
      cases hC with
      | cons q => exact ⟨rfl, q⟩
    have hpl : p < t.rows.length := by have := H.wf.pars_lt hp; omega
    cases hR with
    | @cons _ _ ds fs hF hr =>
      obtain ⟨i1, i2⟩ := ih p fs hpl (H.nonbeside hp) hC' hr
      obtain ⟨b1, b2⟩ := H.behind_iff hh hp hb
      have b3 := H.run_mem hpl hF b1
      have b4 := (H.forest_lt hF (fun k hk => (H.kid_of ((b1 k).mp hk).1).1) b2).1
      refine ⟨?_, fun d => ?_⟩
      · rw [List.pairwise_append]
        refine ⟨b4, i1, fun a ha b hb => ?_⟩
        obtain ⟨_, _, y, v, e, _⟩ := (b3 a).mp ha
        exact H.prefix_lt hpl ⟨_, e⟩ ((i2 b).mp hb).2.2.inc
      · rw [List.mem_append, b3, i2, H.step hp, inc1_right (H.ne hpl)]
        constructor
        · rintro (⟨h1, h2, h3⟩ | ⟨h1, h2, h3⟩)
          · exact ⟨h1, h2, .inl h3⟩
          · exact ⟨h1, h2, .inr h3⟩
        · rintro ⟨h1, h2, h3 | h3⟩
          · exact .inl ⟨h1, h2, h3⟩
          · exact .inr ⟨h1, h2, h3⟩
theorem Ways.backR {st ds : List Nat} (h : BackR t.chs st ds) : (∀ k ∈ st, k < t.rows.length) → st.Pairwise (fun a b => Inc (V b) (V a)) →
    ds.Pairwise (fun a b => ltI (nl (V b)) (nl (V a)) = true) ∧ ∀ d, d ∈ ds ↔ (d < t.rows.length ∧ ∃ s ∈ st, Below t V s d) := by
  induction h with
  | nil => intro _ _; exact ⟨.nil, by simp⟩
  | @cons c r ds fs hF hB ih =>
    intro hst hp
    rw [List.pairwise_cons] at hp
    obtain ⟨i1, i2⟩ := ih (fun k hk => hst k (.tail _ hk)) hp.2
    have hc : ∀ k ∈ [c], k < t.rows.length := fun k hk => by
      rw [List.mem_singleton.mp hk]; exact hst c (.head _)
    have m := H.forest_mem hF hc
    have lt := (H.forest_lt hF hc (by simp)).1
    have ext : ∀ {s d}, Below t V s d → ∃ e, V d = V s ++ e := by
      rintro s d (rfl | ⟨_, e⟩)
      · exact ⟨[], by simp⟩
      · exact e
    refine ⟨?_, fun d => ?_⟩
    · rw [List.pairwise_append, List.pairwise_reverse]
      refine ⟨lt, i1, fun a ha b hb => ?_⟩
      obtain ⟨_, s, hs, h1⟩ := (m a).mp (List.mem_reverse.mp ha)
      obtain ⟨_, s', hs', h2⟩ := (i2 b).mp hb
      rw [List.mem_singleton.mp hs] at h1
      exact ((hp.1 s' hs').ext1 (ext h2) (ext h1)).lt
    · rw [List.mem_append, List.mem_reverse, m, i2]
      constructor
      · rintro (⟨h1, s, hs, h2⟩ | ⟨h1, s, hs, h2⟩)
        · exact ⟨h1, s, List.mem_cons.mpr (.inl (List.mem_singleton.mp hs)), h2⟩
        · exact ⟨h1, s, .tail _ hs, h2⟩
      · rintro ⟨h1, s, hs, h2⟩
        rcases List.mem_cons.mp hs with e | hs
        · exact .inl ⟨h1, s, List.mem_singleton.mpr e, h2⟩
        · exact .inr ⟨h1, s, hs, h2⟩
theorem Ways.run_back {p : Nat} {st ds : List Nat} {c : Nat → Prop} (hp : p < t.rows.length) (hm : ∀ d, d ∈ ds ↔ (d < t.rows.length ∧ ∃ s ∈ st, Below t V s d)) (hst : ∀ k, k ∈ st ↔ k ∈ t.chs p ∧ c k) (d : Nat) :
    d ∈ ds ↔ (d < t.rows.length ∧ beside (t.kinds d) = false ∧ ∃ y v, V d = V p ++ y :: v ∧ c y) := by
  rw [hm]
  constructor
  · rintro ⟨hd, s, hs, hb⟩
    obtain ⟨h1, h2⟩ := (hst s).mp hs
    obtain ⟨k1, k2, k3, _⟩ := H.kid_of h1
    have e := H.step k2
    rcases hb with rfl | ⟨hb, w, e2⟩
    · exact ⟨hd, k3, d, [], e, h2⟩
    · exact ⟨hd, hb, s, w, by rw [e2, e]; simp, h2⟩
  · rintro ⟨hd, hb, y, v, e, hc⟩
    obtain ⟨h1, h2, _⟩ := H.first hp hd hb e
    exact ⟨hd, y, (hst y).mpr ⟨h1, hc⟩, .inr ⟨hb, v, by rw [e, h2]; simp⟩⟩
theorem Ways.preR : ∀ (h : Nat) (as out : List Nat), h < t.rows.length → beside (t.kinds h) = false → Chain t.pars (t.pars h) as → PreR t (h :: as) out →
    out.Pairwise (fun a b => ltI (nl (V b)) (nl (V a)) = true) ∧ ∀ d, d ∈ out ↔ (d < t.rows.length ∧ beside (t.kinds d) = false ∧ Inc1 (V d) (V h)) := by
  intro h as
  induction as generalizing h with
  | nil =>
    intro out hh hb hC hR
    have hp : t.pars h = none := by
      cases e : t.pars h with
      | none => rfl
      | some p => rw [e] at hC; cases hC
    cases hR with
    | cons hF hr =>
      cases hr
      rw [(H.none_iff hh hp).2] at hF
      cases hF
      refine ⟨.nil, fun d => ?_⟩
      constructor
      · intro q; exact absurd q (by simp)
      · rintro ⟨_, _, q⟩
        exact absurd q (H.not_inc1 hh hp _).2
  | cons p as ih =>
    intro out hh hb hC hR
    obtain ⟨hp, hC'⟩ : t.pars h = some p ∧ Chain t.pars (t.pars p) as := by
      generalize t.pars h = o at hC
      cases hC with
      | cons q => exact ⟨rfl, q⟩
    have hpl : p < t.rows.length := by have := H.wf.pars_lt hp; omega
    cases hR with
    | @cons _ _ ds fs hF hr =>
      obtain ⟨i1, i2⟩ := ih p fs hpl (H.nonbeside hp) hC' hr
      obtain ⟨b1, b2⟩ := H.ahead_iff hh hp hb
      obtain ⟨b4, b5⟩ := H.backR hF (fun k hk => (H.kid_of ((b1 k).mp hk).1).1) b2
      have b3 := H.run_back hpl b5 b1
      refine ⟨?_, fun d => ?_⟩
      · rw [List.pairwise_append]
        refine ⟨b4, i1, fun a ha b hb => ?_⟩
        obtain ⟨_, _, y, v, e, _⟩ := (b3 a).mp ha
        exact (((i2 b).mp hb).2.2.inc.ext1 ⟨[], by simp⟩ ⟨_, e⟩).lt
      · rw [List.mem_append, b3, i2, H.step hp, inc1_left (H.ne hpl)]
        constructor
        · rintro (⟨h1, h2, h3⟩ | ⟨h1, h2, h3⟩)
          · exact ⟨h1, h2, .inl h3⟩
          · exact ⟨h1, h2, .inr h3⟩
        · rintro ⟨h1, h2, h3 | h3⟩
          · exact .inl ⟨h1, h2, h3⟩
          · exact .inr ⟨h1, h2, h3⟩
theorem Ways.chain (i : Nat) : ∃ as, Chain t.pars (t.pars i) as ∧ as.length ≤ t.rows.length := by
  have hf : ∀ k p, t.pars k = some p → p < k := fun k p e => (H.wf.pars_lt e).1
  obtain ⟨as, h⟩ := Chain.exists hf t.rows.length (t.pars i) (fun k e => by have := H.wf.pars_lt e; omega)
  exact ⟨as, h, h.len hf fun k e => by have := H.wf.pars_lt e; omega⟩
theorem Ways.behind_in {h k : Nat} (hk : k ∈ t.behindN h) : k < t.rows.length := by
  cases e : t.rows[h]? with
  | none => unfold TreeA.behindN at hk; rw [e] at hk; cases hk
  | some nd => rw [behindN_of e] at hk; exact behind_lt H.wf.good hk
theorem Ways.ahead_in {h k : Nat} (hk : k ∈ t.aheadN h) : k < t.rows.length := by
  cases e : t.rows[h]? with
  | none => unfold TreeA.aheadN at hk; rw [e] at hk; cases hk
  | some nd => rw [aheadN_of e] at hk; exact ahead_lt H.wf.good hk
theorem Ways.folR_ex : ∀ as : List Nat, ∃ out, FolR t as out
  | [] => ⟨[], .nil⟩
  | h :: r => by
    obtain ⟨fs, hf⟩ := Ways.folR_ex r
    obtain ⟨ds, hd⟩ := H.forest (t.behindN h) fun k hk => H.behind_in hk
    exact ⟨ds ++ fs, .cons hd hf⟩
theorem Ways.backR_ex : ∀ st : List Nat, (∀ k ∈ st, k < t.rows.length) → ∃ out, BackR t.chs st out
  | [], _ => ⟨[], .nil⟩
  | c :: r, h => by
    obtain ⟨fs, hf⟩ := Ways.backR_ex r fun k hk => h k (.tail _ hk)
    obtain ⟨ds, hd⟩ := H.forest [c] fun k hk => by rw [List.mem_singleton.mp hk]; exact h c (.head _)
    exact ⟨ds.reverse ++ fs, .cons hd hf⟩
theorem Ways.preR_ex : ∀ as : List Nat, ∃ out, PreR t as out
  | [] => ⟨[], .nil⟩
  | h :: r => by
    obtain ⟨fs, hf⟩ := Ways.preR_ex r
    obtain ⟨ds, hd⟩ := H.backR_ex (t.aheadN h) fun k hk => H.ahead_in hk
    exact ⟨ds ++ fs, .cons hd hf⟩
end
theorem map_getD (K : List Nat) : (List.range K.length).map (fun i => K.getD i 0) = K := by
  apply List.ext_getElem?
  intro i
  rw [List.getElem?_map]
  by_cases h : i < K.length
  · rw [List.getElem?_range h, List.getElem?_eq_getElem h]
    simp [List.getD, h]
  · rw [List.getElem?_eq_none (by rw [List.length_range]; omega), List.getElem?_eq_none (by omega)]; rfl
theorem sort_uniq {K out : List Nat} {W : Nat → List Nat} (hn : K.Nodup) (hm : ∀ d, d ∈ out ↔ d ∈ K) (hs : out.Pairwise fun a b => ltI (nl (W a)) (nl (W b)) = true) {q : List Nat} (hq : q.Perm (List.range K.length))
    (hl : ∀ i j, i < j → j < K.length → ltI (nl (W (K.getD (q.getD i 0) 0))) (nl (W (K.getD (q.getD j 0) 0))) = true) : q.map (fun i => K.getD i 0) = out := by
  have hlen : q.length = K.length := by rw [hq.length_eq, List.length_range]
  have p1 : (q.map (fun i => K.getD i 0)).Perm K := by
    have := hq.map (fun i => K.getD i 0)
    rwa [map_getD] at this
  have no : ∀ a b : List Nat, ltI (nl a) (nl b) = true → ltI (nl b) (nl a) = true → False := fun a b h1 h2 => by
    have := ltI_trans _ _ _ h1 h2
    rw [ltI_irr] at this; cases this
  have hnd : out.Nodup := hs.imp fun {a b} h e => by subst e; rw [ltI_irr] at h; cases h
  have p2 : K.Perm out := (List.perm_ext_iff_of_nodup hn hnd).mpr fun a => (hm a).symm
  refine (p1.trans p2).eq_of_pairwise (le := fun a b => ltI (nl (W a)) (nl (W b)) = true) (fun a b _ _ h1 h2 => (no _ _ h1 h2).elim) ?_ hs
  rw [List.pairwise_map, List.pairwise_iff_getElem]
  intro i j hi hj hij
  have := hl i j hij (by omega)
  rwa [getD_lt hi, getD_lt hj] at this
theorem keepB_cons {b : Bool} {wl one : List Nat} : keepB b wl one = true ↔ ∃ y u v, wl = y :: u ∧ one = y :: v ∧ ltI (nl wl) (nl one) = true ∧ (b = true ∨ one.take wl.length ≠ wl) := by
  unfold keepB
  cases wl with
  | nil => simp
  | cons y u =>
    cases one with
    | nil => simp
    | cons x v =>
      dsimp only
      rw [Bool.and_eq_true, Bool.and_eq_true, decide_eq_true_eq, Bool.or_eq_true, Bool.not_eq_true', decide_eq_false_iff_not]
      constructor
      · rintro ⟨rfl, h2, h3⟩; exact ⟨_, _, _, rfl, rfl, h2, h3⟩
      · rintro ⟨z, u', v', h1, h2, h3, h4⟩
        cases h1; cases h2
        exact ⟨rfl, h3, h4⟩
theorem keepA_cons {wl one : List Nat} : keepA wl one = true ↔ ∃ y u v, wl = y :: u ∧ one = y :: v ∧ ltI (nl one) (nl wl) = true ∧ wl.take one.length ≠ one := by
  unfold keepA
  cases wl with
  | nil => simp
  | cons y u =>
    cases one with
    | nil => simp
    | cons x v =>
      dsimp only
      rw [Bool.and_eq_true, Bool.and_eq_true, decide_eq_true_eq, Bool.not_eq_true', decide_eq_false_iff_not]
      constructor
      · rintro ⟨rfl, h2, h3⟩; exact ⟨_, _, _, rfl, rfl, h2, h3⟩
      · rintro ⟨z, u', v', h1, h2, h3, h4⟩
        cases h1; cases h2
        exact ⟨rfl, h3, h4⟩
theorem inc1_head {a b : List Nat} (h : Inc1 a b) : ∃ y u v, a = y :: u ∧ b = y :: v := by
  obtain ⟨p, x, y, u, v, h1, h2, h3, _⟩ := h
  cases p with
  | nil => exact absurd rfl h1
  | cons z p => exact ⟨z, _, _, h2, h3⟩
theorem inc_heads {a b : List Nat} (h : Inc a b) {y : Nat} {u v : List Nat} (ha : a = y :: u) (hb : b = y :: v) : Inc1 a b := by
  obtain ⟨p, x, z, u', v', h1, h2, h3⟩ := h
  cases p with
  | nil =>
    rw [ha] at h1; rw [hb] at h2
    simp only [List.nil_append, List.cons.injEq] at h1 h2
    omega
  | cons c p => exact ⟨c :: p, x, z, u', v', by simp, h1, h2, h3⟩
theorem inc_no {a b : List Nat} (h : Inc a b) : b.take a.length ≠ a ∧ a.take b.length ≠ b := by
  have h1 := h.lt
  obtain ⟨p, x, y, u, v, rfl, rfl, hxy⟩ := h
  constructor
  · intro e
    rw [← List.take_append_drop (p ++ x :: u).length (p ++ y :: v), e, List.append_assoc] at h1
    have h2 := congrArg (·[p.length]?) e
    simp only [List.getElem?_take, List.length_append, List.length_cons] at h2
    simp at h2
    omega
  · intro e
    have h2 := congrArg (·[p.length]?) e
    simp only [List.getElem?_take, List.length_append, List.length_cons] at h2
    simp at h2
    omega
theorem lt_no {a b : List Nat} (h : ltI (nl a) (nl b) = true) : ¬ Inc b a ∧ ∀ c, a ≠ b ++ c := by
  have no : ltI (nl b) (nl a) = true → False := fun h2 => by
    have := ltI_trans _ _ _ h h2
    rw [ltI_irr] at this; cases this
  refine ⟨fun q => no q.lt, ?_⟩
  rintro c rfl
  cases c with
  | nil => rw [List.append_nil, ltI_irr] at h; cases h
  | cons x c => exact no pre_lt
theorem keepB_plain {wl one : List Nat} : keepB false wl one = true ↔ Inc1 wl one := by
  rw [keepB_cons]
  constructor
  · rintro ⟨y, u, v, h1, h2, h3, h4⟩
    obtain ⟨n1, n2⟩ := lt_no h3
    rcases part_or wl one with ⟨c, e⟩ | ⟨c, e⟩ | h | h
    · rcases h4 with h4 | h4
      · cases h4
      · exact absurd (by rw [e, List.take_left]) h4
    · exact absurd e (n2 c)
    · exact inc_heads h h1 h2
    · exact absurd h n1
  · intro h
    obtain ⟨y, u, v, h1, h2⟩ := inc1_head h
    exact ⟨y, u, v, h1, h2, h.inc.lt, .inr (inc_no h.inc).1⟩
theorem keepB_within {wl one : List Nat} (hw : wl ≠ []) : keepB true wl one = true ↔ ((∃ y v, one = wl ++ y :: v ∧ True) ∨ Inc1 wl one) := by
  rw [keepB_cons]
  constructor
  · rintro ⟨y, u, v, h1, h2, h3, _⟩
    obtain ⟨n1, n2⟩ := lt_no h3
    rcases part_or wl one with ⟨c, e⟩ | ⟨c, e⟩ | h | h
    · cases c with
      | nil => rw [e, List.append_nil, ltI_irr] at h3; cases h3
      | cons x c => exact .inl ⟨x, c, e, trivial⟩
    · exact absurd e (n2 c)
    · exact .inr (inc_heads h h1 h2)
    · exact absurd h n1
  · rintro (⟨y, v, rfl, _⟩ | h)
    · cases wl with
      | nil => exact absurd rfl hw
      | cons z u => exact ⟨z, u, u ++ y :: v, rfl, rfl, pre_lt, .inl rfl⟩
    · obtain ⟨y, u, v, h1, h2⟩ := inc1_head h
      exact ⟨y, u, v, h1, h2, h.inc.lt, .inl rfl⟩
theorem keepA_plain {wl one : List Nat} : keepA wl one = true ↔ Inc1 one wl := by
  rw [keepA_cons]
  constructor
  · rintro ⟨y, u, v, h1, h2, h3, h4⟩
    obtain ⟨n1, n2⟩ := lt_no h3
    rcases part_or one wl with ⟨c, e⟩ | ⟨c, e⟩ | h | h
    · exact absurd (by rw [e, List.take_left]) h4
    · exact absurd e (n2 c)
    · exact inc_heads h h2 h1
    · exact absurd h n1
  · intro h
    obtain ⟨y, u, v, h1, h2⟩ := inc1_head h
    exact ⟨y, v, u, h2, h1, h.inc.lt, (inc_no h.inc).1⟩
theorem isKid_iff {k : Str} (h : k ∈ sixKinds) : isKid k = true ↔ (beside k = false ∧ k ≠ "root") := by
  simp only [sixKinds, List.mem_cons, List.not_mem_nil, or_false] at h
  rcases h with rfl | rfl | rfl | rfl | rfl | rfl | rfl <;> decide
theorem RowsOK.ways {t : TreeA} {qs : List RowA} (W : Wf t) (R : RowsOK t qs) : Ways t (wayL qs) := by
  refine ⟨W, fun i hi => ?_⟩
  obtain ⟨r, hr⟩ : ∃ r, qs[i]? = some r := ⟨_, List.getElem?_eq_getElem (by rw [R.len]; exact hi)⟩
  rw [wayL_of hr]
  exact (R.row i r hr).2
section
variable {t : TreeA} {qs : List RowA} (W : Wf t) (R : RowsOK t qs)
include W R
theorem kids_mem {wl : List Nat} {keep : List Nat → Bool} {d : Nat} (hw : wl ≠ []) : d ∈ (kidsTo qs wl qs.length).filter (fun k => keep (wayL qs k)) ↔ (d < t.rows.length ∧ isKid (t.kinds d) = true ∧ keep (wayL qs d) = true) := by
  unfold kidsTo
  rw [List.mem_filter, List.mem_filter, List.mem_range, R.len, decide_eq_false hw, Bool.not_false, Bool.true_and]
  constructor
  · rintro ⟨⟨h1, h2⟩, h3⟩
    obtain ⟨r, hr⟩ : ∃ r, qs[d]? = some r := ⟨_, List.getElem?_eq_getElem (by rw [R.len]; exact h1)⟩
    rw [kidF_of hr, (R.row d r hr).1] at h2
    exact ⟨h1, h2, h3⟩
  · rintro ⟨h1, h2, h3⟩
    obtain ⟨r, hr⟩ : ∃ r, qs[d]? = some r := ⟨_, List.getElem?_eq_getElem (by rw [R.len]; exact h1)⟩
    rw [kidF_of hr, (R.row d r hr).1]
    exact ⟨⟨h1, h2⟩, h3⟩
theorem kids_nodup {wl : List Nat} {f : Nat → Bool} : ((kidsTo qs wl qs.length).filter f).Nodup := by
  unfold kidsTo
  exact List.Pairwise.filter _ (List.Pairwise.filter _ List.nodup_range)
theorem deep_kid {d : Nat} (hd : d < t.rows.length) (hb : beside (t.kinds d) = false) (h : (∃ a y v, a ≠ [] ∧ wayL qs d = a ++ y :: v)) : isKid (t.kinds d) = true := by
  have H := R.ways W
  obtain ⟨nd, hnd⟩ : ∃ nd, t.rows[d]? = some nd := ⟨_, List.getElem?_eq_getElem hd⟩
  have six := W.six d nd hnd
  rw [← kinds_of hnd] at six
  rw [isKid_iff six]
  refine ⟨hb, fun e => ?_⟩
  rw [kinds_of hnd] at e
  have hp := W.root d nd hnd e
  rw [← pars_of hnd] at hp
  obtain ⟨a, y, v, h1, h2⟩ := h
  rw [H.top hd hp] at h2
  have := congrArg List.length h2
  have := List.length_pos_iff.mpr h1
  simp at *
  omega
theorem inc1_deep {a b : List Nat} (h : Inc1 a b) : (∃ p y v, p ≠ [] ∧ b = p ++ y :: v) ∧ ∃ p y v, p ≠ [] ∧ a = p ++ y :: v := by
  obtain ⟨p, x, y, u, v, h1, h2, h3, _⟩ := h
  exact ⟨⟨p, y, v, h1, h3⟩, p, x, u, h1, h2⟩
theorem kid_six {d : Nat} (hd : d < t.rows.length) (h : isKid (t.kinds d) = true) : beside (t.kinds d) = false := by
  obtain ⟨nd, hnd⟩ : ∃ nd, t.rows[d]? = some nd := ⟨_, List.getElem?_eq_getElem hd⟩
  have six := W.six d nd hnd
  rw [← kinds_of hnd] at six
  exact ((isKid_iff six).mp h).1
theorem last_of {K : List Nat} (h : ∀ k ∈ K, k < t.rows.length) {q : List Nat} (hq : q.Perm (List.range K.length)) : q.map (fun i => (wayL qs (K.getD i 0)).getLastD 0) = q.map (fun i => K.getD i 0) := by
  apply List.map_congr_left
  intro i hi
  have hi' := List.mem_range.mp (hq.mem_iff.mp hi)
  refine (R.ways W).last (h _ ?_)
  rw [getD_lt hi']
  exact List.getElem_mem hi'
theorem len20 {K out : List Nat} (hK : K.Nodup) (hk : ∀ k ∈ K, k < t.rows.length) (hm : ∀ d, d ∈ out ↔ d ∈ K) (hn : out.Nodup) : out.length ≤ 100 := by
  have p : out.Perm ((List.range t.rows.length).filter fun k => decide (k ∈ K)) := (List.perm_ext_iff_of_nodup hn (List.Pairwise.filter _ List.nodup_range)).mpr fun a => by
    rw [List.mem_filter, List.mem_range, decide_eq_true_eq, hm]
    exact ⟨fun h => ⟨hk a h, h⟩, fun h => h.2⟩
  rw [p.length_eq]
  refine Nat.le_trans (List.length_filter_le _ _) ?_
  rw [List.length_range]
  exact Nat.le_trans W.size (by decide)
theorem follow_law {i : Nat} {r : RowA} (hi : qs[i]? = some r) : ∃ out, Following t i out ∧ out.length ≤ 100 ∧
    ∀ q : List Nat, q.Perm (List.range ((kidsTo qs (if beside r.kind then r.way.dropLast else r.way) qs.length).filter fun k => (keepB (beside r.kind) (if beside r.kind then r.way.dropLast else r.way)) (wayL qs k)).length) → (∀ i j, i < j → j < ((kidsTo qs (if beside r.kind then r.way.dropLast else r.way) qs.length).filter fun k => (keepB (beside r.kind) (if beside r.kind then r.way.dropLast else r.way)) (wayL qs k)).length → ltI (nl (wayL qs (((kidsTo qs (if beside r.kind then r.way.dropLast else r.way) qs.length).filter fun k => (keepB (beside r.kind) (if beside r.kind then r.way.dropLast else r.way)) (wayL qs k)).getD (q.getD i 0) 0))) (nl (wayL qs (((kidsTo qs (if beside r.kind then r.way.dropLast else r.way) qs.length).filter fun k => (keepB (beside r.kind) (if beside r.kind then r.way.dropLast else r.way)) (wayL qs k)).getD (q.getD j 0) 0))) = true) → q.map (fun i => (wayL qs (((kidsTo qs (if beside r.kind then r.way.dropLast else r.way) qs.length).filter fun k => (keepB (beside r.kind) (if beside r.kind then r.way.dropLast else r.way)) (wayL qs k)).getD i 0)).getLastD 0) = out := by
  have H := R.ways W
  have hil : i < t.rows.length := by rw [← R.len]; exact (List.getElem?_eq_some_iff.mp hi).1
  have hk : r.kind = t.kinds i := (R.row i r hi).1
  have hwi : wayL qs i = r.way := wayL_of hi
  have fin : ∀ (b : Bool) (wl : List Nat) (out : List Nat), Following t i out → (∀ d, d ∈ out ↔ d ∈ (kidsTo qs wl qs.length).filter fun k => keepB b wl (wayL qs k)) → (∀ k ∈ (kidsTo qs wl qs.length).filter fun k => keepB b wl (wayL qs k), k < t.rows.length) →
      out.Pairwise (fun a b => ltI (nl (wayL qs a)) (nl (wayL qs b)) = true) → ∃ out, Following t i out ∧ out.length ≤ 100 ∧ ∀ q : List Nat, q.Perm (List.range ((kidsTo qs wl qs.length).filter fun k => keepB b wl (wayL qs k)).length) → (∀ i j, i < j → j < ((kidsTo qs wl qs.length).filter fun k => keepB b wl (wayL qs k)).length → ltI (nl (wayL qs (((kidsTo qs wl qs.length).filter fun k => keepB b wl (wayL qs k)).getD (q.getD i 0) 0))) (nl (wayL qs (((kidsTo qs wl qs.length).filter fun k => keepB b wl (wayL qs k)).getD (q.getD j 0) 0))) = true) → q.map (fun i => (wayL qs (((kidsTo qs wl qs.length).filter fun k => keepB b wl (wayL qs k)).getD i 0)).getLastD 0) = out := by
    intro b wl out hF hm hl hs
    have hnd : out.Nodup := hs.imp fun {a b} h e => by subst e; rw [ltI_irr] at h; cases h
    refine ⟨out, hF, len20 W R (kids_nodup W R) hl hm hnd, fun q hq hqs => ?_⟩
    rw [last_of W R hl hq]
    exact sort_uniq (kids_nodup W R) hm hs hq hqs
  cases hb : beside r.kind with
  | false =>
    simp only [Bool.false_eq_true, if_false]
    obtain ⟨as, hC, _⟩ := H.chain i
    obtain ⟨out, hR⟩ := H.folR_ex (i :: as)
    have hb' : beside (t.kinds i) = false := by rw [← hk]; exact hb
    obtain ⟨o1, o2⟩ := H.folR i as out hil hb' hC hR
    have hne : r.way ≠ [] := by rw [← hwi]; exact H.ne hil
    refine fin false r.way out (.plain hb' hC hR) (fun d => ?_) (fun k hk => ((kids_mem W R hne).mp hk).1) o1
    rw [kids_mem W R hne, o2, keepB_plain, hwi]
    constructor
    · rintro ⟨h1, h2, h3⟩
      exact ⟨h1, deep_kid W R h1 h2 (inc1_deep W R h3).1, h3⟩
    · rintro ⟨h1, h2, h3⟩
      exact ⟨h1, kid_six W R h1 h2, h3⟩
  | true =>
    simp only [if_true]
    have hb' : beside (t.kinds i) = true := by rw [← hk]; exact hb
    cases hp : t.pars i with
    | none =>
      have e : r.way.dropLast = [] := by rw [← hwi, H.top hil hp]; rfl
      rw [e]
      refine fin true [] [] (.loose hb' hp) (fun d => ?_) (fun k hk => ?_) .nil
      · unfold kidsTo; simp
      · unfold kidsTo at hk; simp at hk
    | some p =>
      have hpl : p < t.rows.length := by have := W.pars_lt hp; omega
      have e : r.way.dropLast = wayL qs p := by rw [← hwi, H.step hp]; simp
      rw [e]
      obtain ⟨as, hC, _⟩ := H.chain p
      obtain ⟨fs, hR⟩ := H.folR_ex (p :: as)
      obtain ⟨ds, hF⟩ := H.forest (t.chs p) fun k hk => (H.kid_of hk).1
      obtain ⟨o1, o2⟩ := H.folR p as fs hpl (H.nonbeside hp) hC hR
      have d1 := (H.forest_lt hF (fun k hk => (H.kid_of hk).1) H.kids_inc).1
      have d2 := H.run_mem (c := fun _ => True) hpl hF fun k => ⟨fun h => ⟨h, trivial⟩, fun h => h.1⟩
      have hne := H.ne hpl
      refine fin true (wayL qs p) (ds ++ fs) (.within hb' hp hF hC hR) (fun d => ?_) (fun k hk => ((kids_mem W R hne).mp hk).1) ?_
      · rw [kids_mem W R hne, keepB_within hne, List.mem_append, d2, o2]
        constructor
        · rintro (⟨h1, h2, h3⟩ | ⟨h1, h2, h3⟩)
          · obtain ⟨y, v, e, _⟩ := h3
            exact ⟨h1, deep_kid W R h1 h2 ⟨_, y, v, hne, e⟩, .inl ⟨y, v, e, trivial⟩⟩
          · exact ⟨h1, deep_kid W R h1 h2 (inc1_deep W R h3).1, .inr h3⟩
        · rintro ⟨h1, h2, h3 | h3⟩
          · exact .inl ⟨h1, kid_six W R h1 h2, h3⟩
          · exact .inr ⟨h1, kid_six W R h1 h2, h3⟩
      · rw [List.pairwise_append]
        refine ⟨d1, o1, fun a ha b hb => ?_⟩
        obtain ⟨_, _, y, v, e, _⟩ := (d2 a).mp ha
        exact H.prefix_lt hpl ⟨_, e⟩ ((o2 b).mp hb).2.2.inc
theorem precede_law {i : Nat} {r : RowA} (hi : qs[i]? = some r) : ∃ out, Preceding t i out ∧ out.length ≤ 100 ∧
    ∀ q : List Nat, q.Perm (List.range ((kidsTo qs (if beside r.kind then r.way.dropLast else r.way) qs.length).filter fun k => (keepA (if beside r.kind then r.way.dropLast else r.way)) (wayL qs k)).length) → (∀ i j, i < j → j < ((kidsTo qs (if beside r.kind then r.way.dropLast else r.way) qs.length).filter fun k => (keepA (if beside r.kind then r.way.dropLast else r.way)) (wayL qs k)).length → ltI (nl (wayL qs (((kidsTo qs (if beside r.kind then r.way.dropLast else r.way) qs.length).filter fun k => (keepA (if beside r.kind then r.way.dropLast else r.way)) (wayL qs k)).getD (q.getD i 0) 0))) (nl (wayL qs (((kidsTo qs (if beside r.kind then r.way.dropLast else r.way) qs.length).filter fun k => (keepA (if beside r.kind then r.way.dropLast else r.way)) (wayL qs k)).getD (q.getD j 0) 0))) = true) → (q.map (fun i => (wayL qs (((kidsTo qs (if beside r.kind then r.way.dropLast else r.way) qs.length).filter fun k => (keepA (if beside r.kind then r.way.dropLast else r.way)) (wayL qs k)).getD i 0)).getLastD 0)).reverse = out := by
  have H := R.ways W
  have hil : i < t.rows.length := by rw [← R.len]; exact (List.getElem?_eq_some_iff.mp hi).1
  have hk : r.kind = t.kinds i := (R.row i r hi).1
  have hwi : wayL qs i = r.way := wayL_of hi
  have fin : ∀ (wl : List Nat) (out : List Nat), Preceding t i out → (∀ d, d ∈ out ↔ d ∈ (kidsTo qs wl qs.length).filter fun k => keepA wl (wayL qs k)) → (∀ k ∈ (kidsTo qs wl qs.length).filter fun k => keepA wl (wayL qs k), k < t.rows.length) →
      out.Pairwise (fun a b => ltI (nl (wayL qs b)) (nl (wayL qs a)) = true) → ∃ out, Preceding t i out ∧ out.length ≤ 100 ∧ ∀ q : List Nat, q.Perm (List.range ((kidsTo qs wl qs.length).filter fun k => keepA wl (wayL qs k)).length) → (∀ i j, i < j → j < ((kidsTo qs wl qs.length).filter fun k => keepA wl (wayL qs k)).length → ltI (nl (wayL qs (((kidsTo qs wl qs.length).filter fun k => keepA wl (wayL qs k)).getD (q.getD i 0) 0))) (nl (wayL qs (((kidsTo qs wl qs.length).filter fun k => keepA wl (wayL qs k)).getD (q.getD j 0) 0))) = true) → (q.map (fun i => (wayL qs (((kidsTo qs wl qs.length).filter fun k => keepA wl (wayL qs k)).getD i 0)).getLastD 0)).reverse = out := by
    intro wl out hF hm hl hs
    have hnd : out.Nodup := hs.imp fun {a b} h e => by subst e; rw [ltI_irr] at h; cases h
    refine ⟨out, hF, len20 W R (kids_nodup W R) hl hm hnd, fun q hq hqs => ?_⟩
    rw [last_of W R hl hq, sort_uniq (out := out.reverse) (kids_nodup W R) (fun d => by rw [List.mem_reverse]; exact hm d) (by rw [List.pairwise_reverse]; exact hs) hq hqs, List.reverse_reverse]
  have run : ∀ p as out, p < t.rows.length → beside (t.kinds p) = false → Chain t.pars (t.pars p) as → PreR t (p :: as) out → Preceding t i out → ∃ out, Preceding t i out ∧ out.length ≤ 100 ∧ ∀ q : List Nat, q.Perm (List.range ((kidsTo qs (wayL qs p) qs.length).filter fun k => keepA (wayL qs p) (wayL qs k)).length) → (∀ i j, i < j → j < ((kidsTo qs (wayL qs p) qs.length).filter fun k => keepA (wayL qs p) (wayL qs k)).length → ltI (nl (wayL qs (((kidsTo qs (wayL qs p) qs.length).filter fun k => keepA (wayL qs p) (wayL qs k)).getD (q.getD i 0) 0))) (nl (wayL qs (((kidsTo qs (wayL qs p) qs.length).filter fun k => keepA (wayL qs p) (wayL qs k)).getD (q.getD j 0) 0))) = true) → (q.map (fun i => (wayL qs (((kidsTo qs (wayL qs p) qs.length).filter fun k => keepA (wayL qs p) (wayL qs k)).getD i 0)).getLastD 0)).reverse = out := by
    intro p as out hpl hpb hC hR hF
    obtain ⟨o1, o2⟩ := H.preR p as out hpl hpb hC hR
    have hne := H.ne hpl
    refine fin (wayL qs p) out hF (fun d => ?_) (fun k hk => ((kids_mem W R hne).mp hk).1) o1
    rw [kids_mem W R hne, o2, keepA_plain]
    constructor
    · rintro ⟨h1, h2, h3⟩
      exact ⟨h1, deep_kid W R h1 h2 (inc1_deep W R h3).2, h3⟩
    · rintro ⟨h1, h2, h3⟩
      exact ⟨h1, kid_six W R h1 h2, h3⟩
  cases hb : beside r.kind with
  | false =>
    simp only [Bool.false_eq_true, if_false]
    obtain ⟨as, hC, _⟩ := H.chain i
    obtain ⟨out, hR⟩ := H.preR_ex (i :: as)
    have hb' : beside (t.kinds i) = false := by rw [← hk]; exact hb
    rw [← hwi]
    exact run i as out hil hb' hC hR (.plain hb' hC hR)
  | true =>
    simp only [if_true]
    have hb' : beside (t.kinds i) = true := by rw [← hk]; exact hb
    cases hp : t.pars i with
    | none =>
      have e : r.way.dropLast = [] := by rw [← hwi, H.top hil hp]; rfl
      rw [e]
      refine fin [] [] (.loose hb' hp) (fun d => ?_) (fun k hk => ?_) .nil
      · unfold kidsTo; simp
      · unfold kidsTo at hk; simp at hk
    | some p =>
      have hpl : p < t.rows.length := by have := W.pars_lt hp; omega
      have e : r.way.dropLast = wayL qs p := by rw [← hwi, H.step hp]; simp
      rw [e]
      obtain ⟨as, hC, _⟩ := H.chain p
      obtain ⟨fs, hR⟩ := H.preR_ex (p :: as)
      exact run p as fs hpl (H.nonbeside hp) hC hR (.within hb' hp hC hR)
end
theorem drop_filter : ∀ {xs : List Nat}, xs.Pairwise (· < ·) → ∀ {h : Nat}, h ∈ xs → xs.drop (xs.idxOf h + 1) = xs.filter (fun o => decide (h < o)) ∧ xs.take (xs.idxOf h) = xs.filter (fun o => decide (o < h))
  | [], _, _, hm => (nomatch hm)
  | x :: r, hp, h, hm => by
    rw [List.pairwise_cons] at hp
    by_cases e : x = h
    · subst e
      rw [List.idxOf_cons_self, List.drop_succ_cons, List.drop_zero, List.take_zero, List.filter_cons_of_neg (by simp), List.filter_cons_of_neg (by simp)]
      constructor
      · rw [List.filter_eq_self.mpr]
        intro a ha; exact decide_eq_true (hp.1 a ha)
      · rw [List.filter_eq_nil_iff.mpr]
        intro a ha; have := hp.1 a ha; simp; omega
    · rw [List.idxOf_cons, beq_false_of_ne e]
      have hm' : h ∈ r := by
        rcases List.mem_cons.mp hm with q | q
        · exact absurd q.symm e
        · exact q
      obtain ⟨i1, i2⟩ := drop_filter hp.2 hm'
      have := hp.1 h hm'
      show (x :: r).drop (r.idxOf h + 1 + 1) = _ ∧ (x :: r).take (r.idxOf h + 1) = _
      rw [List.drop_succ_cons, List.take_succ_cons, i1, i2, List.filter_cons_of_neg (by simp; omega), List.filter_cons_of_pos (by simp; omega)]
      exact ⟨rfl, rfl⟩
theorem pickA_par {xs : List Nat} {p i : Nat} : pickA (inl (xs ++ [p] ++ [i])) (some (((xs ++ [p] ++ [i]).length : Int) - 2)) (some (((xs ++ [p] ++ [i]).length : Int) - 1)) none = inl [p] := by
  rw [pickA_plain]
  have e1 : kms_lo (some (((xs ++ [p] ++ [i]).length : Int) - 2)) (inl (xs ++ [p] ++ [i])).length = xs.length := by
    simp [kms_lo]
  have e2 : kms_hi (some (((xs ++ [p] ++ [i]).length : Int) - 1)) (inl (xs ++ [p] ++ [i])).length = xs.length + 1 := by
    have h1 : ¬ (((xs ++ [p] ++ [i]).length : Int) - 1 < 0) := by simp; omega
    simp only [kms_hi, h1, if_false]
    simp; omega
  rw [e1, e2]
  have : inl (xs ++ [p] ++ [i]) = inl xs ++ inl [p] ++ inl [i] := by simp
  rw [this, List.append_assoc, List.drop_append_of_le_length (by simp), List.drop_of_length_le (by simp), List.nil_append, List.take_append_of_le_length (by simp)]
  simp
theorem pickA_one {i : Nat} : pickA (inl [i]) (some ((([i] : List Nat).length : Int) - 2)) (some ((([i] : List Nat).length : Int) - 1)) none = [] := by
  rw [pickA_plain]
  simp [kms_lo, kms_hi]
theorem Chain.down {f : Nat → Option Nat} (hf : ∀ k p, f k = some p → p < k) {o : Option Nat} {as : List Nat} (h : Chain f o as) : as.Pairwise (fun a b => b < a) ∧ ∀ k ∈ as, ∀ m, (∀ p, o = some p → p < m) → k < m := by
  induction h with
  | nil => exact ⟨.nil, fun k hk => (nomatch hk)⟩
  | @cons p as _ ih =>
    refine ⟨?_, fun k hk m hm => ?_⟩
    · rw [List.pairwise_cons]
      exact ⟨fun b hb => ih.2 b hb p (fun q e => hf p q e), ih.1⟩
    · have hp := hm p rfl
      rcases List.mem_cons.mp hk with rfl | hk
      · exact hp
      · exact ih.2 k hk m (fun q e => by have := hf p q e; omega)
section
variable {t : TreeA} {qs : List RowA} (W : Wf t) (R : RowsOK t qs)
include W R
theorem near_under {p : Nat} {kx : List AV} (hp : p < t.rows.length) : near qs (wayL qs p) kx = t.under (fun k => strIn k kx) p := by
  have H := R.ways W
  unfold near TreeA.under
  rw [R.len]
  apply List.filter_congr
  intro k hk
  have hk := List.mem_range.mp hk
  obtain ⟨r, hr⟩ : ∃ r, qs[k]? = some r := ⟨_, List.getElem?_eq_getElem (by rw [R.len]; exact hk)⟩
  unfold nearF
  rw [hr]
  dsimp only
  rw [(R.row k r hr).1, ← wayL_of hr]
  congr 1
  cases e : t.pars k with
  | none =>
    rw [H.top hk e]
    have : ¬ ([] : List Nat) = wayL qs p := fun q => H.ne hp q.symm
    simp [this]
  | some q =>
    have hq : q < t.rows.length := by have := W.pars_lt e; omega
    rw [H.step e, List.dropLast_concat]
    by_cases h : q = p
    · subst h; simp
    · have : ¬ wayL qs q = wayL qs p := fun z => h (H.inj hq hp z)
      simp [this, h]
theorem under_congr {c c' : Str → Bool} {p : Nat} (h : ∀ k, k < t.rows.length → t.pars k = some p → c (t.kinds k) = c' (t.kinds k)) : t.under c p = t.under c' p := by
  unfold TreeA.under
  apply List.filter_congr
  intro k hk
  by_cases e : t.pars k = some p
  · rw [h k (List.mem_range.mp hk) e]
  · have : (t.pars k == some p) = false := beq_false_of_ne e
    rw [this]; rfl
theorem six_of {k : Nat} (hk : k < t.rows.length) : t.kinds k ∈ sixKinds ∧ (t.kinds k = "root" → t.pars k = none) := by
  obtain ⟨nd, hnd⟩ : ∃ nd, t.rows[k]? = some nd := ⟨_, List.getElem?_eq_getElem hk⟩
  rw [kinds_of hnd, pars_of hnd]
  exact ⟨W.six k nd hnd, W.root k nd hnd⟩
theorem chs_near {p : Nat} (hp : p < t.rows.length) : t.chs p = near qs (wayL qs p) kidsK := by
  obtain ⟨nd, hnd⟩ : ∃ nd, t.rows[p]? = some nd := ⟨_, List.getElem?_eq_getElem hp⟩
  rw [near_under W R hp, chs_of hnd, W.ch p nd hnd]
  refine under_congr W R fun k hk e => ?_
  obtain ⟨h6, hr⟩ := six_of W R hk
  have hnr : t.kinds k ≠ "root" := fun q => by rw [hr q] at e; cases e
  have := isKid_iff h6
  show _ = isKid (t.kinds k)
  cases hb : beside (t.kinds k) with
  | true =>
    cases hk : isKid (t.kinds k) with
    | true => exact absurd (this.mp hk).1 (by rw [hb]; decide)
    | false => rfl
  | false => rw [this.mpr ⟨hb, hnr⟩]; rfl
theorem no_under {c : Str → Bool} {p : Nat} (hc : ∀ k, c k = true → beside k = true) (he : t.kinds p ≠ "element") : t.under c p = [] := by
  rw [List.eq_nil_iff_forall_not_mem]
  intro k hk
  obtain ⟨h1, h2, h3⟩ := mem_under.mp hk
  obtain ⟨nd, hnd⟩ : ∃ nd, t.rows[k]? = some nd := ⟨_, List.getElem?_eq_getElem h1⟩
  rw [pars_of hnd] at h2
  rw [kinds_of hnd] at h3
  exact he (W.own k nd hnd p h2 (hc _ h3))
theorem at_near {p : Nat} (hp : p < t.rows.length) : (if t.kinds p = "element" then (t.rows[p]?.map (·.at')).getD [] else []) = near qs (wayL qs p) [.str "attribute"] := by
  obtain ⟨nd, hnd⟩ : ∃ nd, t.rows[p]? = some nd := ⟨_, List.getElem?_eq_getElem hp⟩
  have e : t.under (fun k => strIn k [.str "attribute"]) p = t.under isAt p := under_congr W R fun k _ _ => by
    unfold strIn isAt
    rw [List.any_cons, List.any_nil, Bool.or_false]
    rw [Bool.eq_iff_iff, beq_iff_eq, beq_iff_eq]; exact eq_comm
  rw [near_under W R hp, e]
  by_cases h : t.kinds p = "element"
  · rw [if_pos h, hnd]
    exact W.at' p nd hnd
  · rw [if_neg h, no_under W R (fun k h => by rw [beside_eq, h]; rfl) h]
theorem ns_near {p : Nat} (hp : p < t.rows.length) : t.lot p = near qs (wayL qs p) [.str "namespace"] ∧ t.lot p = t.under isNs p := by
  obtain ⟨nd, hnd⟩ : ∃ nd, t.rows[p]? = some nd := ⟨_, List.getElem?_eq_getElem hp⟩
  have e : t.under (fun k => strIn k [.str "namespace"]) p = t.under isNs p := under_congr W R fun k _ _ => by
    unfold strIn isNs
    rw [List.any_cons, List.any_nil, Bool.or_false]
    rw [Bool.eq_iff_iff, beq_iff_eq, beq_iff_eq]; exact eq_comm
  rw [near_under W R hp, e]
  have : t.lot p = t.under isNs p := by
    unfold TreeA.lot
    by_cases h : t.kinds p = "element"
    · rw [if_pos h, nss_of hnd]
      exact W.ns p nd hnd
    · rw [if_neg h, no_under W R (fun k h => by rw [beside_eq, h]; simp) h]
  exact ⟨this, this⟩
theorem short_law {i : Nat} {r : RowA} (hi : qs[i]? = some r) (hn : t.rows.length ≤ 11) : ∃ like as, SF t qs i r like as := by
  have H := R.ways W
  have hil : i < t.rows.length := by rw [← R.len]; exact (List.getElem?_eq_some_iff.mp hi).1
  have hk : r.kind = t.kinds i := (R.row i r hi).1
  have hwi : wayL qs i = r.way := wayL_of hi
  obtain ⟨nd, hnd⟩ : ∃ nd, t.rows[i]? = some nd := ⟨_, List.getElem?_eq_getElem hil⟩
  obtain ⟨as, hC, hal⟩ := H.chain i
  have hf : ∀ k p, t.pars k = some p → p < k := fun k p e => (W.pars_lt e).1
  have hway : r.way = (i :: as).reverse := by
    rw [← hwi]
    obtain ⟨bs, hC2, e⟩ := H.way i hil
    rw [e, hC2.func hC, List.reverse_cons]
  have hdown := hC.down hf
  have hin : ∀ k ∈ i :: as, k < t.rows.length := by
    intro k hk
    rcases List.mem_cons.mp hk with rfl | hk
    · exact hil
    · exact hdown.2 k hk _ fun p e => by have := W.pars_lt e; omega
  have hpw : (i :: as).Pairwise (fun a b => b < a) := by
    rw [List.pairwise_cons]
    exact ⟨fun b hb => hdown.2 b hb i fun p e => hf i p e, hdown.1⟩
  have lotm : ∀ a ∈ i :: as, ∀ k ∈ t.lot a, k < t.rows.length ∧ t.pars k = some a ∧ t.kinds k = "namespace" := by
    intro a ha k hk
    rw [(ns_near W R (hin a ha)).2] at hk
    obtain ⟨h1, h2, h3⟩ := mem_under.mp hk
    exact ⟨h1, h2, eq_of_beq h3⟩
  have lotd : ((i :: as).flatMap t.lot).Nodup := by
    show List.Pairwise _ _
    rw [List.pairwise_flatMap]
    refine ⟨fun a ha => ?_, hpw.imp_of_mem fun {a b} ha hb hab x hx y hy e => ?_⟩
    · rw [(ns_near W R (hin a ha)).2]; exact under_nodup
    · subst e
      have h1 := (lotm a ha x hx).2.1
      rw [(lotm b hb x hy).2.1] at h1
      cases h1
      omega
  have lotk : ∀ k ∈ (i :: as).flatMap t.lot, k < t.rows.length ∧ t.kinds k = "namespace" := by
    intro k hk
    obtain ⟨a, ha, h⟩ := List.mem_flatMap.mp hk
    obtain ⟨h1, _, h3⟩ := lotm a ha k h
    exact ⟨h1, h3⟩
  have nsv : ∀ k ∈ (i :: as).flatMap t.lot, 2 ≤ k ∧ k < 11 ∧ t.nam k = nsName (k - 2) ∧ t.valu k = "u" := by
    intro k hk
    obtain ⟨h1, h3⟩ := lotk k hk
    obtain ⟨kn, hkn⟩ : ∃ kn, t.rows[k]? = some kn := ⟨_, List.getElem?_eq_getElem h1⟩
    rw [kinds_of hkn] at h3
    obtain ⟨a, b, c⟩ := W.nsn k kn hkn h3
    rw [nam_of hkn, valu_of hkn]
    exact ⟨a, by omega, b, c⟩
  have hkid : isKid r.kind = true ↔ (beside (t.kinds i) = false ∧ t.kinds i ≠ "root") := by rw [hk]; exact isKid_iff (six_of W R hil).1
  have hlike : ∃ like, (1 < r.way.length → isKid r.kind = true → ∃ (p : Nat) (rp : RowA), qs[p]? = some rp ∧ r.way[r.way.length - 2]? = some p ∧ like = near qs rp.way kidsK) ∧
      (¬ (1 < r.way.length ∧ isKid r.kind = true) → like = []) ∧ (t.behindN i = like.filter fun o => decide (i < o)) ∧ (t.aheadN i = like.reverse.filter fun o => decide (o < i)) := by
    cases hp : t.pars i with
    | none =>
      have e : r.way = [i] := by rw [← hwi, H.top hil hp]
      obtain ⟨b1, b2⟩ := H.none_iff hil hp
      exact ⟨[], fun h => (by rw [e] at h; simp at h), fun _ => rfl, by rw [b1]; rfl, by rw [b2]; rfl⟩
    | some p =>
      have hpl : p < t.rows.length := by have := W.pars_lt hp; omega
      have e : r.way = wayL qs p ++ [i] := by rw [← hwi, H.step hp]
      obtain ⟨rp, hrp⟩ : ∃ rp, qs[p]? = some rp := ⟨_, List.getElem?_eq_getElem (by rw [R.len]; exact hpl)⟩
      have hpos := List.length_pos_iff.mpr (H.ne hpl)
      cases hb : beside (t.kinds i) with
      | true =>
        have hnk : ¬ isKid r.kind = true := fun q => by rw [(hkid.mp q).1] at hb; cases hb
        rw [behindN_of hnd, aheadN_of hnd]
        unfold TreeA.behind TreeA.ahead
        rw [← pars_of hnd, hp]
        dsimp only
        rw [← kinds_of hnd, hb]
        exact ⟨[], fun _ h => absurd h hnk, fun _ => rfl, rfl, rfl⟩
      | false =>
        have hnr : t.kinds i ≠ "root" := fun q => by have := (six_of W R hil).2 q; rw [hp] at this; cases this
        have hik : isKid r.kind = true := hkid.mpr ⟨hb, hnr⟩
        have hlen : 1 < r.way.length := by rw [e]; simp; omega
        obtain ⟨d1, d2⟩ := drop_filter (H.chs_sorted p) (H.of_kid hil hp hb)
        refine ⟨t.chs p, fun _ _ => ⟨p, rp, hrp, ?_, ?_⟩, fun q => absurd ⟨hlen, hik⟩ q, ?_, ?_⟩
        · obtain ⟨pw, epw⟩ := H.snoc hpl
          rw [e, epw]
          simp
        · rw [chs_near W R hpl, wayL_of hrp]
        · rw [behindN_of hnd]
          unfold TreeA.behind
          rw [← pars_of hnd, hp]
          dsimp only
          rw [← kinds_of hnd, hb]
          exact d1
        · rw [aheadN_of hnd]
          unfold TreeA.ahead
          rw [← pars_of hnd, hp]
          dsimp only
          rw [← kinds_of hnd, hb, List.filter_reverse]
          exact congrArg List.reverse d2
  obtain ⟨like, k1, k2, k3, k4⟩ := hlike
  refine ⟨like, as, ⟨?_, ?_, ?_, k1, k2, k3, k4, hC, by omega, ?_, ?_, ?_, ?_, ?_⟩⟩
  · rw [chs_near W R hil, hwi]
  · cases hp : t.pars i with
    | none =>
      rw [show r.way = [i] by rw [← hwi, H.top hil hp], pickA_one]; rfl
    | some p =>
      have hpl : p < t.rows.length := by have := W.pars_lt hp; omega
      obtain ⟨pw, epw⟩ := H.snoc hpl
      rw [show r.way = pw ++ [p] ++ [i] by rw [← hwi, H.step hp, epw], pickA_par]; rfl
  · rw [at_near W R hil, hwi]
  · have : ((i :: as).flatMap t.lot).length ≤ (List.range t.rows.length).length := lotd.length_le_of_subset fun k hk => List.mem_range.mpr (lotk k hk).1
    rw [List.length_range] at this
    omega
  · show List.Pairwise _ _
    rw [List.pairwise_map]
    refine lotd.imp_of_mem fun {a b} ha hb hab e => ?_
    obtain ⟨a1, a2, a3, _⟩ := nsv a ha
    obtain ⟨b1, b2, b3, _⟩ := nsv b hb
    rw [a3, b3] at e
    have := (at_inj (a - 2) (by omega) (b - 2) (by omega)).2 e
    omega
  · intro k hk e
    rw [(nsv k hk).2.2.2] at e
    exact absurd e (by decide)
  · rw [hk, hway]
    split
    · have : ∀ xs : List Nat, (∀ a ∈ xs, a < t.rows.length) → xs.flatMap t.lot = xs.flatMap (fun h => near qs (wayL qs h) [.str "namespace"]) := by
        intro xs
        induction xs with
        | nil => intro _; rfl
        | cons a r ih =>
          intro h
          rw [List.flatMap_cons, List.flatMap_cons, ih fun b hb => h b (.tail _ hb), (ns_near W R (h a (.head _))).1]
      exact this _ fun a ha => hin a (List.mem_reverse.mp ha)
    · rfl
  · intro h hm
    rw [hway] at hm
    have := hin h (List.mem_reverse.mp hm)
    exact ⟨_, List.getElem?_eq_getElem (by rw [R.len]; exact this)⟩
end
set_option genInjectivity false in
structure FX (Z : Amb) (P : PX Z) : Prop where
  obj : ∃ nm q N bs sn sub ab col dd k0 k1 k2 k3 k5, Z.K.lookup P.cF = some (faultObj nm q P.cF N P.cM bs true sn sub ab col dd k0 k1 k2 k3 k5)
  ini : findIn Z.K (.ref P.cF) "__init__" = some (some (.ref P.fM)) ∧ isFn Z.K (.ref P.fM) = true
  sa : findIn Z.K (.ref P.cF) "__setattr__" = some (some (.builtin "object.__setattr__"))
  msg : findIn Z.K (.ref P.cF) "message" = some none
  g : Z.mg "TreeFault" = some (.ref P.cF) ∧ keepIn Z.K (.ref P.cF) = true
  ge : Z.mg "Exception" = none
theorem boot_exc : bootBuiltins "Exception" = some (.type "Exception") := by rfl
theorem typeOf_exc : typeOf (.type "Exception") = pure (.type "type") := by kernel_rfl
theorem stub_exc : Manifest.isStub "Exception" = false := by decide +kernel
section
variable {Z : Amb} {A : Around} {env : Env} {l l' : Led} {X : Value → Shared → Prop} {L : Addr} {names : List (Str × NameKind)} {cells : List (Str × Addr)}
theorem Sat.fr {s : Shared} {m : List (Str × Option AV)} (hs : Sat Z l s) (hL : (L, .frame m) ∈ l) : ∃ f, Fr Z.h₀ L s.heap f := by
  obtain ⟨hz, ob, ho, hn, es, ep, hd, hk, _⟩ := hs.obj hL
  exact ⟨nsFind es, ⟨ob, es, ep, ho, hd, hk, fun _ => rfl⟩, hs.keep, hz⟩
theorem Up1.self {a : Addr} {o : AObj} : ∀ {l : Led}, (a, o) ∈ l → Up1 a o o l l
  | _ :: _, .head _ => .head
  | _ :: _, .tail _ h => .tail (Up1.self h)
theorem find_exc : findCls Z.K (.type "Exception") (.type "type") "__init__" = some (.val (.builtin "Exception.__init__")) := by rfl
theorem r_excInit {P : PX Z} (FF : FX Z P) {np apos pos : Pos} {e1 e2 : Expr} {m : List (Str × Option AV)} {pl : Sem Bool} {Q : AV → Led → Prop} (hE : EnvIs env L names cells) (hk : (("Exception" : Str), NameKind.globalImplicit) ∈ names) (hL : (L, .frame m) ∈ l)
    (h : AR Z A env pos [e1, e2] l (fun vs l1 => ∃ e msg, vs = [.ref e, msg] ∧ (e, .exc P.cF true) ∈ l1 ∧ Q .none l1) X)
    (he : callForm env (.Name "Exception" np) "__init__" [e1, e2] apos pos pl := by rfl) (hst : starEach [e1, e2] env = (false, eval e1 env) :: starEach [e2] env := by rfl) (hpl : (backTo pos (starEach [e2] env)).any (·.1) = false := by rfl) :
    EV Z A env (.Call (.Attribute (.Name "Exception" np) "__init__" apos) [e1, e2] [] pos) l Q X := by
  intro s Q' hs hQ
  have nm : EV Z A env (.Name "Exception" np) l (fun v l' => v = er (.type "Exception") ∧ l' = l) X := r_blt hE hk FF.ge boot_exc ⟨rfl, rfl⟩
  refine methodCall_KW (pl := pl) (nm s _ hs fun v s1 l1 h1 g1 => ?_) he
  obtain ⟨ev, rfl⟩ := g1
  have ev' : v = .type "Exception" := by
    cases v <;> simp [er] at ev
    rw [ev]
  subst ev'
  obtain ⟨f, F⟩ := h1.fr hL
  refine method_type F Z.X typeOf_exc stub_exc find_exc rfl ?_
  have hs1 := h1.tok (s1.toks + 1)
  refine PyProof.Rows.callWith_builtin1 (h _ _ hs1 fun vs s2 l2 h2' g2 => ?_) hst hpl
  obtain ⟨e, msg, ev, hm, hq⟩ := g2
  obtain ⟨u, u2, rfl, eu, _⟩ := two_of ev
  obtain rfl := er_ref eu
  obtain ⟨_, _, _, _, _, _, _, _, _, _, _, _, _, _, hC⟩ := FF.obj
  obtain ⟨_, oe, ho, hcls, hdi, tt, hd⟩ := h2'.obj hm
  obtain ⟨hh, g, dr, tk, os⟩ := s2
  refine fault_init (h2'.K _ _ hC) ho hcls hd fun h' k1 k2 => ?_
  obtain ⟨oe', q1, q2, q3, t', q4⟩ := k2
  exact hQ .none _ _ (h2'.up (tk := tk) (Up1.self hm) (fun b hb o => k1 b o hb) q1 ⟨q2.trans hcls, fun e => q3.trans (hdi e), t', q4⟩) hq
theorem st_excattr {P : PX Z} (FF : FX Z P) {e : Addr} {v : AV} {Q : Led → Prop} (U : Up1 e (.exc P.cF true) (.exc P.cF false) l l') (h : Q l') :
    ∀ vo, er vo = .ref e → ST Z A (setAttr vo "message") v l Q X := by
  rintro vo ev u rfl s Q' hs hQ
  obtain rfl := er_ref ev
  obtain ⟨_, _, _, _, _, _, _, _, _, _, _, _, _, _, hC⟩ := FF.obj
  obtain ⟨_, oe, ho, hcls, hdi, tt, hd⟩ := hs.obj U.mem
  refine fault_set hs.K (hs.K _ _ hC) FF.sa FF.msg ho hcls hd (hdi rfl) fun h' tk k1 k2 => ?_
  obtain ⟨oe', q1, q2, q3⟩ := k2
  exact hQ () _ l' (hs.up (tk := tk) U (fun b hb o => k1 b o hb) q1 ⟨q2.trans hcls, fun e => (by first | exact ctf e | exact cft e), tt, q3.trans hd⟩) h
theorem errInit_ok (P : PX Z) (FF : FX Z P) {e : Addr} {msg : Str} {Q : AV → Led → Prop} (hr : Room A 2) (h : Q .none ((e, .exc P.cF false) :: l)) :
    CD Z A (.ref P.fM) [.ref e, .str msg] ((e, .exc P.cF true) :: l) Q X := by
  refine cd_fn P.dM (m := [("self", some (.ref e)), ("message", some (.str msg))]) (names := [("self", .local), ("message", .local), ("Exception", .globalImplicit)]) (ps := ["self", "message"]) (others := []) rfl rfl (fun doc pm cdv ct => bind2 fun v0 v1 => rfl) (by decide) rfl (k := 1) hr ?_
  intro env L A' hE hr'
  refine s_cons ?_
  refine s_expr (by assumption) ?_
  refine r_excInit FF hE (by lcg_sub) (.head _) ?_
  refine a_cons ?_
  tlg_ne
  refine a_cons ?_
  tlg_ne
  refine a_nil ?_
  refine ⟨_, _, rfl, by lcg_sub, ?_⟩
  refine t_cons ?_
  refine s_setattr ?_
  tlg_ne
  tlg_ne
  refine st_excattr FF (by krn_off) ?_
  refine t_nil ?_
  exact Up.drop (Up.here h)
theorem fault_make (P : PX Z) (FF : FX Z P) {msg : Str} {k : Nat} {Q : AV → Led → Prop} (hr : Room A 3) (h : ∀ e, Q (.ref e) ((e, .exc P.cF false) :: l)) : CL Z A (.ref P.cF) [.str msg] l Q X := by
  rintro vs ev s Q' hs hQ
  obtain ⟨u, rfl, eu⟩ := one_arg ev
  obtain ⟨t, rfl⟩ := er_str eu
  obtain ⟨hh, g, dr, tk, os⟩ := s
  obtain ⟨_, _, _, _, _, _, _, _, _, _, _, _, _, _, hC⟩ := FF.obj
  refine fault_call (K := Z.K) (hs.K _ _ hC) hs.K FF.ini.1 (beq_iff_eq.mp FF.ini.2) (fun h' e hm hle => ?_) (by simp only [List.length_singleton]; exact Nat.le_trans (show 1 ≤ 1000 by decide) (by decide))
  obtain ⟨t', he, htn, ht⟩ := hm.there
  have h1 : Sat Z ((e, .exc P.cF true) :: l) ⟨h', g, dr, tk, os⟩ := hs.new (tk := tk) hm.keeps hle he ⟨rfl, fun _ => rfl, t', rfl⟩
  have hr' : Room (A.under (.builtin "type.__call__" ⟨[.ref P.cF, .str msg t], []⟩)) 2 := by
    obtain ⟨r1, r2, r3⟩ := hr
    refine ⟨r1, ?_, ?_⟩
    · rw [depth_under_make]; omega
    · rw [units_under_make]; omega
  exact (errInit_ok P FF (X := X) hr' (Q := fun v l' => v = .none ∧ ∀ s', Sat Z l' s' → Q' (.ref e) s') ⟨rfl, fun s' hs' => hQ _ _ _ hs' (h e)⟩).cl [.ref e, .str msg t] rfl _ _ h1 fun v s' l' hs' hq => ⟨er_none hq.1, hq.2 s' hs'⟩
end
section
variable {Z : Amb} {A : Around} {l : Led} {X : Value → Shared → Prop} {fr : List Env}
theorem cd_fnX {a : Addr} {name qual : Str} {st : Stmt} {ps others : List Str} {args : List AV} {m : List (Str × Option AV)} {names : List (Str × NameKind)} {k : Nat} {Q : AV → Led → Prop} {XB : Env → Addr → Value → Shared → Prop}
    (hf : DefAt Z a name qual st) (hA : A.frames = some fr) (hN : (fdS st).names = names) (hm : frame0 ps args others = m)
    (hbind : ∀ doc pm cdv ct (vs : List Value), vs.map er = args → bindArgs (fnOf name qual (fdP st) (fdB st) (fdS st) .none .none doc pm none cdv ct) ⟨vs, []⟩ = pure (ps.zip vs))
    (hck : ((ps.all fun x => decide (names.lookup x = some .local)) && (names.all fun x => decide (x.2 ≠ .cell)) && decide (names.map (·.1)).Nodup && decide (ps ++ others).Nodup && decide ((fdS st).kind = .function) && !(fdS st).isCoroutine && !(fdS st).isGenerator) = true)
    (hlen : args.length = ps.length) (hr : Room A (k + 1))
    (hleave : ∀ env L A', env.frame = some L → env.scope.kind = .function → A'.frames = some (env :: fr) → ∀ e s', XB env L e s' → wpAny Z.M A' (leaving env e) (fun _ s'' => X e s'') X s')
    (h : ∀ env L A', EnvIs env L names [] → env.frame = some L → env.scope.kind = .function → A'.frames = some (env :: fr) → Room A' k → SV Z A' env (fdB st) ((L, .frame m) :: l) (fun fl => Up (Q (retOf fl))) (XB env L)) : CD Z A (.ref a) args l Q X := by
  obtain ⟨oc, od, osl, doc, pm, cdv, ct, h1, h2, h3⟩ := hf
  subst hN
  simp only [Bool.and_eq_true, Bool.not_eq_true', decide_eq_true_eq] at hck
  obtain ⟨⟨⟨⟨⟨⟨c1, c2⟩, c3⟩, c4⟩, c5⟩, c6⟩, c7⟩ := hck
  have hmn : (m.map (·.1)).Nodup := by
    subst hm
    have : (frame0 ps args others).map (·.1) = ps ++ others := by
      unfold frame0
      rw [List.map_append, List.map_map, List.map_map]
      congr 1
      · have : ((fun x : Str × Option AV => x.1) ∘ fun p : Str × AV => (p.1, some p.2)) = Prod.fst := rfl
        rw [this, List.map_fst_zip (by omega)]
      · have : ((fun x : Str × Option AV => x.1) ∘ fun y : Str => (y, (none : Option AV))) = id := rfl
        rw [this, List.map_id]
    rw [this]; exact c4
  rintro vs rfl s R hs hQ hX
  subst hm
  refine codeAny_call_def hr.room (hs.K _ _ h1) rfl (Z.T.nolimit.keeps hs.keep) (codeRec_of hs.K h2) rfl (BindsTo.of_eq (hbind doc pm cdv ct vs rfl))
    (fun x hx => of_decide_eq_true (List.all_eq_true.mp c2 x hx)) (fun x hx => of_decide_eq_true (List.all_eq_true.mp c1 x.1 (List.of_mem_zip hx).1)) (fun h₁ hns hkp => ?_) c6 c7 c5
  have hS : Sat Z ((s.heap.objs.size, .frame (frame0 ps (vs.map er) others)) :: l) { s with heap := h₁, toks := s.toks + (ps.zip vs).length } := by
    rw [frame0_eq] at hmn ⊢
    obtain ⟨ob, ho, hi⟩ := frame_is (prog := Z.prog) (w := Z.w) hns hmn
    exact hs.new hkp (Nat.le_refl _) ho hi
  refine wpAny_mono (h _ _ _ (envIs_call rfl rfl c5 c3) rfl c5 (Around.frames_deeper hA) hr.deeper _ (fun fl s' => R (.ok (.ret (match fl with | .ret v => v | _ => .none))) s') hS ?_) (fun fl s' x => x)
    (fun e s' x => wpAny_mono (hleave _ _ _ rfl c5 (Around.frames_deeper hA) e s' x) (fun _ s'' y => hX e s'' y) (fun e' s'' y => hX e' s'' y))
  rintro fl s' l' hs' ⟨l2, hsb, hq⟩
  refine hQ _ _ l2 (hs'.subperm hsb) ?_
  cases fl <;> exact hq
theorem leave_body {C : Addr} {l : Led} {env : Env} {L : Addr} {A' : Around} (hf : env.frame = some L) (hA : A'.frames = some (env :: fr)) : ∀ e s', Flown Z C (env :: fr) l e s' → wpAny Z.M A' (leaving env e) (fun _ s'' => Flown Z C fr l e s'') (Flown Z C fr l) s' :=
  fun e s' h => leave_next hf hA h
theorem CD.raises {f : Value} {args : List AV} {Q : AV → Led → Prop} {X2 : Value → Shared → Prop} (h : CD Z A f args l Q X) (hx : ∀ v s, X v s → X2 v s) : CD Z A f args l Q X2 :=
  fun vs e s R hs hQ hX => h vs e s R hs hQ fun e s' x => hX e s' (hx e s' x)
theorem s_raise {env : Env} {P : PX Z} (FF : FX Z P) {e : Expr} {pos : Pos} {Q : AFlow → Led → Prop} (hh : A.handled = none)
    (h : EV Z A env e l (fun v l1 => ∃ x l2, v = .ref x ∧ Sb ((x, .exc P.cF false) :: l2) l1 ∧ ∀ s, Sat Z ((x, .exc P.cF false) :: l2) s → X (.ref x) s) X) : S1 Z A env (.Raise (some e) none pos) l Q X := by
  intro s Q' hs hQ
  rw [arm_exec_Raise]
  obtain ⟨nm, q, N, bs, sn, sub, ab, col, dd, k0, k1, k2, k3, k5, hC⟩ := FF.obj
  refine wpAny_bind (wpAny_standAt (fault_raise (C := P.cF) (nm := nm) (q := q) (N := N) (P := P.cM) (bs := bs) (hdct := true) (sn := sn) (sub := sub) (ab := ab) (col := col) (dd := dd) (k0 := k0) (k1 := k1) (k2 := k2) (k3 := k3) (k5 := k5) hh (wpAny_bind (wpAny_mono (h s _ hs fun v s1 l1 h1 g1 => ?_) (fun v s₃ h₃ => wpAny_bind (wpAny_standAt (wpAny_pure h₃))) fun _ _ x => x))))
  obtain ⟨x, l2, e1, hsb, hx⟩ := g1
  obtain rfl := er_ref e1
  have h2 := h1.subperm hsb
  obtain ⟨_, oe, ho, hcls, _, t, hd⟩ := h2.obj (.head _)
  exact ⟨x, oe, t, rfl, h2.K _ _ hC, ho, hcls, hd, hx _ h2⟩
theorem rowX_ok (P : PX Z) (FF : FX Z P) {t : TreeA} {i : Int} {Q : AV → Led → Prop} (hT : In (treeLed P t) l) (hi : i < 0 ∨ t.rows.length ≤ i) (hz : t.rows.length ≤ 100) (hr : Room A 6) (hA : A.frames = some fr) (hk : FrOk fr l) :
    CD Z A (.ref (P.ma 2)) [.ref t.x, .int i] l Q (Flown Z P.cF fr l) := by
  have m1 := tree_in1 hT
  have m2 := tree_in2 hT
  have m3 := tree_in3 hT
  have hne : l ≠ [] := List.ne_nil_of_mem m1
  refine cd_fnX (XB := fun env L => Fresh Z P.cF ((L, .frame [("self", some (.ref t.x)), ("node", some (.int i))]) :: l)) (P.mdef 2 (by decide)).1 hA (m := [("self", some (.ref t.x)), ("node", some (.int i))]) (names := [("self", .local), ("node", .local), ("len", .globalImplicit), ("TreeFault", .globalImplicit)]) (ps := ["self", "node"]) (others := []) rfl rfl (fun doc pm cdv ct => bind2 fun u v => rfl) (by decide) rfl (k := 5) hr ?_ ?_
  · intro env L A' hf hkd hA' e s' h
    exact wpAny_mono (leave_first (X := Flown Z P.cF fr l) hf hA' ((hk.mono fun p hp => .tail _ hp).cons hkd hf (.head _)) (by simp) h) (fun _ s'' y => y.mono (.drop .refl) hne) (fun _ _ y => y)
  intro env L A' hE hf hkd hA' hr'
  have rz : ∀ (p1 p2 p3 p4 : Pos) (Q' : AFlow → Led → Prop), SV Z A' env [.Raise (some (.Call (.Name "TreeFault" p1) [.Constant (.str "no such node") 0 p2] [] p3)) none p4] ((L, .frame [("self", some (.ref t.x)), ("node", some (.int i))]) :: l) Q' (Fresh Z P.cF ((L, .frame [("self", some (.ref t.x)), ("node", some (.int i))]) :: l)) := by
    intro p1 p2 p3 p4 Q'
    refine s_cons (s_raise FF hr'.hh ?_)
    refine r_call (by assumption) (by lcg_sub) FF.g.1 FF.g.2 ?_
    refine a_cons ?_
    refine r_str ?_
    refine a_nil ?_
    refine fault_make P FF (k := 2) (hr'.le (by decide)) fun e => ⟨e, _, rfl, .refl, fun s hs => ⟨e, rfl, hs⟩⟩
  refine s_cons ?_
  refine s_if ?_
  refine t_not ?_
  refine t_chain2 ?_
  refine r_int ?_
  tlg_ne
  refine c_lei ?_
  refine ⟨fun e => ?_, fun e => ?_⟩
  · exact br_t rfl (rz _ _ _ _ _)
  · refine rc_len (by assumption) (by assumption) (by lcg_sub) ?_
    refine r_attr ?_
    tlg_ne
    first | refine att_tree (by lcg_sub) (by lcg_sub) rfl ?_ | refine att_node (by lcg_sub) (by lcg_sub) (by first | (with_reducible exact nd_1) | (with_reducible exact nd_2) | (with_reducible exact nd_3) | (with_reducible exact nd_4) | (with_reducible exact nd_5) | (with_reducible exact nd_6) | (with_reducible exact nd_7) | (with_reducible exact nd_8) | (with_reducible exact nd_9)) (by first | rfl | assumption) ?_ | refine AttK.mk _ _ _ _ _ rfl (by lcg_sub) (by lcg_sub) (by lcg_sub) (by first | exact PX.aT _ | exact (PX.aN _ _ (by decide)).1) (by first | rfl | assumption) ?_
    refine b_len (by lcg_sub) (by simpa using Nat.le_trans hz (by decide)) ?_
    refine c_lti (br_t ?_ (rz _ _ _ _ _))
    have : ¬ (i < ((List.map (fun n => AV.ref n.x) t.rows).length : Int)) := by
      simp only [List.length_map]
      have := of_decide_eq_true e
      omega
    rw [decide_eq_false this]; rfl
end
section
variable {Z : Amb} {A : Around} {l : Led} {fr : List Env}
theorem CD.fl {C : Addr} {f : Value} {args : List AV} {Q : AV → Led → Prop} {l2 : Led} (h : CD Z A f args l Q (Flown Z C fr l)) (hs : Sb l2 l) (hne : l2 ≠ []) : CD Z A f args l Q (Flown Z C fr l2) :=
  h.raises fun v s x => x.mono hs hne
theorem getX_ok (P : PX Z) (FF : FX Z P) {t : TreeA} {i : Int} {j : Nat} {Q : AV → Led → Prop} (hj : j ∈ [13, 18, 19]) (hT : In (treeLed P t) l) (hi : i < 0 ∨ t.rows.length ≤ i) (hz : t.rows.length ≤ 100) (hr : Room A 8) (hA : A.frames = some fr) (hk : FrOk fr l) :
    CD Z A (.ref (P.ma j)) [.ref t.x, .int i] l Q (Flown Z P.cF fr l) := by
  have m1 := tree_in1 hT
  have m2 := tree_in2 hT
  have m3 := tree_in3 hT
  have hne : l ≠ [] := List.ne_nil_of_mem m1
  have go : ∀ {A' : Around} {env : Env} {L : Addr} {m : List (Str × Option AV)} {Q : AV → Led → Prop}, A'.frames = some (env :: fr) → env.frame = some L → env.scope.kind = .function → Room A' 7 →
      CL Z A' (.ref (P.ma 2)) [.ref t.x, .int i] ((L, .frame m) :: l) Q (Flown Z P.cF (env :: fr) l) := fun hA' hf hkd hr' =>
    ((rowX_ok P FF hT.tail hi hz (hr'.le (by decide)) hA' ((hk.mono fun p hp => .tail _ hp).cons hkd hf (.head _))).fl (.drop .refl) hne).cl
  simp only [List.mem_cons, List.not_mem_nil, or_false] at hj
  rcases hj with rfl | rfl | rfl
  · refine cd_fnX (XB := fun env L => Flown Z P.cF (env :: fr) l) (P.mdef 13 (by decide)).1 hA (m := [("self", some (.ref t.x)), ("node", some (.int i))]) (names := [("self", .local), ("node", .local)]) (ps := ["self", "node"]) (others := []) rfl rfl (fun doc pm cdv ct => bind2 fun v0 v1 => rfl) (by decide) rfl (k := 7) hr (fun env L A' hf hkd hA' => leave_body hf hA') ?_
    intro env L A' hE hf hkd hA' hr'
    refine s_cons ?_
    refine s_ret ?_
    refine r_attr ?_
    refine m_own ?_
    tlg_ne
    refine met_t 2 (by decide) (by lcg_sub) (by lcg_sub) (by decide) ?_ mN2
    refine a_cons ?_
    tlg_ne
    refine a_nil ?_
    exact go hA' hf hkd hr'
  · refine cd_fnX (XB := fun env L => Flown Z P.cF (env :: fr) l) (P.mdef 18 (by decide)).1 hA (m := [("self", some (.ref t.x)), ("node", some (.int i))]) (names := [("self", .local), ("node", .local)]) (ps := ["self", "node"]) (others := []) rfl rfl (fun doc pm cdv ct => bind2 fun v0 v1 => rfl) (by decide) rfl (k := 7) hr (fun env L A' hf hkd hA' => leave_body hf hA') ?_
    intro env L A' hE hf hkd hA' hr'
    refine s_cons ?_
    refine s_ret ?_
    refine r_attr ?_
    refine m_own ?_
    tlg_ne
    refine met_t 2 (by decide) (by lcg_sub) (by lcg_sub) (by decide) ?_ mN2
    refine a_cons ?_
    tlg_ne
    refine a_nil ?_
    exact go hA' hf hkd hr'
  · refine cd_fnX (XB := fun env L => Flown Z P.cF (env :: fr) l) (P.mdef 19 (by decide)).1 hA (m := [("self", some (.ref t.x)), ("node", some (.int i))]) (names := [("self", .local), ("node", .local), ("list", .globalImplicit)]) (ps := ["self", "node"]) (others := []) rfl rfl (fun doc pm cdv ct => bind2 fun v0 v1 => rfl) (by decide) rfl (k := 7) hr (fun env L A' hf hkd hA' => leave_body hf hA') ?_
    intro env L A' hE hf hkd hA' hr'
    refine s_cons ?_
    refine s_ret ?_
    refine rc_list (by assumption) (by assumption) (by lcg_sub) ?_
    refine r_attr ?_
    refine m_own ?_
    tlg_ne
    refine met_t 2 (by decide) (by lcg_sub) (by lcg_sub) (by decide) ?_ mN2
    refine a_cons ?_
    tlg_ne
    refine a_nil ?_
    exact go hA' hf hkd hr'
theorem sibX_ok (P : PX Z) (FF : FX Z P) {t : TreeA} {i : Int} {j : Nat} {Q : AV → Led → Prop} (hj : j ∈ [2, 5, 6, 10]) (hT : In (treeLed P t) l) (hi : i < 0 ∨ t.rows.length ≤ i) (hz : t.rows.length ≤ 100) (hr : Room A 10) (hA : A.frames = some fr) (hk : FrOk fr l) :
    CD Z A (.ref (P.fa j)) [.ref t.x, .int i] l Q (Flown Z P.cF fr l) := by
  have m1 := tree_in1 hT
  have m2 := tree_in2 hT
  have m3 := tree_in3 hT
  have hne : l ≠ [] := List.ne_nil_of_mem m1
  have go : ∀ {A' : Around} {env : Env} {L : Addr} {j : Nat} {m : List (Str × Option AV)} {Q : AV → Led → Prop}, j ∈ [13, 18, 19] → A'.frames = some (env :: fr) → env.frame = some L → env.scope.kind = .function → Room A' 9 →
      CL Z A' (.ref (P.ma j)) [.ref t.x, .int i] ((L, .frame m) :: l) Q (Flown Z P.cF (env :: fr) l) := fun hj hA' hf hkd hr' =>
    ((getX_ok P FF hj hT.tail hi hz (hr'.le (by decide)) hA' ((hk.mono fun p hp => .tail _ hp).cons hkd hf (.head _))).fl (.drop .refl) hne).cl
  simp only [List.mem_cons, List.not_mem_nil, or_false] at hj
  rcases hj with rfl | rfl | rfl | rfl
  · refine cd_fnX (XB := fun env L => Flown Z P.cF (env :: fr) l) (P.fdef 2 (by decide)).1 hA (m := [("tree", some (.ref t.x)), ("node", some (.int i))]) (names := [("tree", .local), ("node", .local)]) (ps := ["tree", "node"]) (others := []) rfl rfl (fun doc pm cdv ct => bind2 fun v0 v1 => rfl) (by decide) rfl (k := 9) hr (fun env L A' hf hkd hA' => leave_body hf hA') ?_
    intro env L A' hE hf hkd hA' hr'
    refine s_cons ?_
    refine s_ret ?_
    refine r_cmp ?_
    refine m_own ?_
    tlg_ne
    refine met_t 13 (by decide) (by lcg_sub) (by lcg_sub) (by decide) ?_ mN13
    refine a_cons ?_
    tlg_ne
    refine a_nil ?_
    exact go (by decide) hA' hf hkd hr'
  · refine cd_fnX (XB := fun env L => Flown Z P.cF (env :: fr) l) (P.fdef 5 (by decide)).1 hA (m := [("tree", some (.ref t.x)), ("node", some (.int i)), ("parent", none), ("around", none)]) (names := [("tree", .local), ("node", .local), ("parent", .local), ("around", .local), ("is_beside", .globalImplicit), ("list", .globalImplicit)]) (ps := ["tree", "node"]) (others := ["parent", "around"]) rfl rfl (fun doc pm cdv ct => bind2 fun v0 v1 => rfl) (by decide) rfl (k := 9) hr (fun env L A' hf hkd hA' => leave_body hf hA') ?_
    intro env L A' hE hf hkd hA' hr'
    refine s_cons ?_
    refine s_assign ?_
    refine m_own ?_
    tlg_ne
    refine met_t 18 (by decide) (by lcg_sub) (by lcg_sub) (by decide) ?_ mN18
    refine a_cons ?_
    tlg_ne
    refine a_nil ?_
    exact go (by decide) hA' hf hkd hr'
  · refine cd_fnX (XB := fun env L => Flown Z P.cF (env :: fr) l) (P.fdef 6 (by decide)).1 hA (m := [("tree", some (.ref t.x)), ("node", some (.int i)), ("parent", none), ("around", none)]) (names := [("tree", .local), ("node", .local), ("parent", .local), ("around", .local), ("is_beside", .globalImplicit), ("list", .globalImplicit)]) (ps := ["tree", "node"]) (others := ["parent", "around"]) rfl rfl (fun doc pm cdv ct => bind2 fun v0 v1 => rfl) (by decide) rfl (k := 9) hr (fun env L A' hf hkd hA' => leave_body hf hA') ?_
    intro env L A' hE hf hkd hA' hr'
    refine s_cons ?_
    refine s_assign ?_
    refine m_own ?_
    tlg_ne
    refine met_t 18 (by decide) (by lcg_sub) (by lcg_sub) (by decide) ?_ mN18
    refine a_cons ?_
    tlg_ne
    refine a_nil ?_
    exact go (by decide) hA' hf hkd hr'
  · refine cd_fnX (XB := fun env L => Flown Z P.cF (env :: fr) l) (P.fdef 10 (by decide)).1 hA (m := [("tree", some (.ref t.x)), ("node", some (.int i)), ("lots", none), ("met", none), ("here", none), ("lot", none), ("told", none)]) (names := [("tree", .local), ("node", .local), ("lots", .local), ("met", .local), ("here", .local), ("lot", .local), ("told", .local), ("ancestors", .globalImplicit)]) (ps := ["tree", "node"]) (others := ["lots", "met", "here", "lot", "told"]) rfl rfl (fun doc pm cdv ct => bind2 fun v0 v1 => rfl) (by decide) rfl (k := 9) hr (fun env L A' hf hkd hA' => leave_body hf hA') ?_
    intro env L A' hE hf hkd hA' hr'
    refine s_cons ?_
    refine s_if ?_
    refine t_cmp ?_
    refine m_own ?_
    tlg_ne
    refine met_t 13 (by decide) (by lcg_sub) (by lcg_sub) (by decide) ?_ mN13
    refine a_cons ?_
    tlg_ne
    refine a_nil ?_
    exact go (by decide) hA' hf hkd hr'
theorem folX_ok (P : PX Z) (FF : FX Z P) {t : TreeA} {i : Int} {j : Nat} {Q : AV → Led → Prop} (hj : j ∈ [8, 9]) (hT : In (treeLed P t) l) (hi : i < 0 ∨ t.rows.length ≤ i) (hz : t.rows.length ≤ 100) (hr : Room A 12) (hA : A.frames = some fr) (hk : FrOk fr l) :
    CD Z A (.ref (P.fa j)) [.ref t.x, .int i] l Q (Flown Z P.cF fr l) := by
  have m1 := tree_in1 hT
  have m2 := tree_in2 hT
  have m3 := tree_in3 hT
  have hne : l ≠ [] := List.ne_nil_of_mem m1
  simp only [List.mem_cons, List.not_mem_nil, or_false] at hj
  rcases hj with rfl | rfl
  · refine cd_fnX (XB := fun env L => Flown Z P.cF (env :: fr) l) (P.fdef 8 (by decide)).1 hA (m := [("tree", some (.ref t.x)), ("node", some (.int i)), ("found", none), ("here", none)]) (names := [("tree", .local), ("node", .local), ("found", .local), ("here", .local), ("is_beside", .globalImplicit), ("descendants", .globalImplicit), ("ancestors", .globalImplicit), ("with_descendants", .globalImplicit), ("siblings_behind", .globalImplicit)]) (ps := ["tree", "node"]) (others := ["found", "here"]) rfl rfl (fun doc pm cdv ct => bind2 fun v0 v1 => rfl) (by decide) rfl (k := 11) hr (fun env L A' hf hkd hA' => leave_body hf hA') ?_
    intro env L A' hE hf hkd hA' hr'
    refine s_cons ?_
    refine s_assign ?_
    refine r_list ?_
    refine a_nil ?_
    refine ⟨by simp, fun fo => ?_⟩
    isplit
    refine t_cons ?_
    refine s_if ?_
    refine t_call ?_
    refine r_callf (by assumption) 2 (by decide) (by assumption) (by lcg_sub) ?_ fN2
    refine a_cons ?_
    tlg_ne
    refine a_cons ?_
    tlg_ne
    refine a_nil ?_
    exact ((sibX_ok P FF (j := 2) (by decide) hT.tail.tail hi hz (hr'.le (by decide)) hA' ((hk.mono fun p hp => .tail _ (.tail _ hp)).cons hkd hf (.tail _ (.head _)))).fl (.drop (.drop .refl)) hne).cl
  · refine cd_fnX (XB := fun env L => Flown Z P.cF (env :: fr) l) (P.fdef 9 (by decide)).1 hA (m := [("tree", some (.ref t.x)), ("node", some (.int i)), ("found", none), ("here", none), ("sibling", none)]) (names := [("tree", .local), ("node", .local), ("found", .local), ("here", .local), ("sibling", .local), ("is_beside", .globalImplicit), ("ancestors", .globalImplicit), ("siblings_ahead", .globalImplicit), ("with_descendants", .globalImplicit)]) (ps := ["tree", "node"]) (others := ["found", "here", "sibling"]) rfl rfl (fun doc pm cdv ct => bind2 fun v0 v1 => rfl) (by decide) rfl (k := 11) hr (fun env L A' hf hkd hA' => leave_body hf hA') ?_
    intro env L A' hE hf hkd hA' hr'
    refine s_cons ?_
    refine s_if ?_
    refine t_call ?_
    refine r_callf (by assumption) 2 (by decide) (by assumption) (by lcg_sub) ?_ fN2
    refine a_cons ?_
    tlg_ne
    refine a_cons ?_
    tlg_ne
    refine a_nil ?_
    exact ((sibX_ok P FF (j := 2) (by decide) hT.tail hi hz (hr'.le (by decide)) hA' ((hk.mono fun p hp => .tail _ hp).cons hkd hf (.head _))).fl (.drop .refl) hne).cl
end
noncomputable abbrev axesN : List Str := ["child", "self", "parent", "attribute", "following-sibling", "preceding-sibling", "namespace"]
section
variable {Z : Amb} {A : Around} {l : Led} {fr : List Env}
theorem shortX_ok (P : PX Z) (FF : FX Z P) {t : TreeA} {i : Int} {nm : Str} {Q : AV → Led → Prop} (hn : nm ∈ axesN) (hT : In (treeLed P t) l) (hi : i < 0 ∨ t.rows.length ≤ i) (hz : t.rows.length ≤ 100) (hr : Room A 12) (hA : A.frames = some fr) (hk : FrOk fr l) :
    CD Z A (.ref (P.fa 11)) [.ref t.x, .int i, .str nm] l Q (Flown Z P.cF fr l) := by
  have m1 := tree_in1 hT
  have m2 := tree_in2 hT
  have m3 := tree_in3 hT
  have hne : l ≠ [] := List.ne_nil_of_mem m1
  have go : ∀ {A' : Around} {env : Env} {L : Addr} {j : Nat} {m : List (Str × Option AV)} {Q : AV → Led → Prop}, j ∈ [13, 18, 19] → A'.frames = some (env :: fr) → env.frame = some L → env.scope.kind = .function → Room A' 11 →
      CL Z A' (.ref (P.ma j)) [.ref t.x, .int i] ((L, .frame m) :: l) Q (Flown Z P.cF (env :: fr) l) := fun hj hA' hf hkd hr' =>
    ((getX_ok P FF hj hT.tail hi hz (hr'.le (by decide)) hA' ((hk.mono fun p hp => .tail _ hp).cons hkd hf (.head _))).fl (.drop .refl) hne).cl
  have go2 : ∀ {A' : Around} {env : Env} {L : Addr} {j : Nat} {m : List (Str × Option AV)} {Q : AV → Led → Prop}, j ∈ [2, 5, 6, 10] → A'.frames = some (env :: fr) → env.frame = some L → env.scope.kind = .function → Room A' 11 →
      CL Z A' (.ref (P.fa j)) [.ref t.x, .int i] ((L, .frame m) :: l) Q (Flown Z P.cF (env :: fr) l) := fun hj hA' hf hkd hr' =>
    ((sibX_ok P FF hj hT.tail hi hz (hr'.le (by decide)) hA' ((hk.mono fun p hp => .tail _ hp).cons hkd hf (.head _))).fl (.drop .refl) hne).cl
  simp only [List.mem_cons, List.not_mem_nil, or_false] at hn
  rcases hn with rfl | rfl | rfl | rfl | rfl | rfl | rfl
  · refine cd_fnX (XB := fun env L => Flown Z P.cF (env :: fr) l) (P.fdef 11 (by decide)).1 hA (m := [("tree", some (.ref t.x)), ("node", some (.int i)), ("name", some (.str "child")), ("parent", none)]) (names := [("tree", .local), ("node", .local), ("name", .local), ("parent", .local), ("list", .globalImplicit), ("siblings_behind", .globalImplicit), ("siblings_ahead", .globalImplicit), ("namespaces_in_scope", .globalImplicit)]) (ps := ["tree", "node", "name"]) (others := ["parent"]) rfl rfl (fun doc pm cdv ct => bind3 fun v0 v1 v2 => rfl) (by decide) rfl (k := 11) hr (fun env L A' hf hkd hA' => leave_body hf hA') ?_
    intro env L A' hE hf hkd hA' hr'
    refine s_cons ?_
    refine s_if ?_
    refine t_cmp ?_
    tlg_ne
    refine r_str ?_
    refine c_eqs (br_t rfl ?_)
    refine s_cons ?_
    refine s_ret ?_
    refine rc_list (by assumption) (by assumption) (by lcg_sub) ?_
    refine m_own ?_
    tlg_ne
    refine met_t 19 (by decide) (by lcg_sub) (by lcg_sub) (by decide) ?_ mN19
    refine a_cons ?_
    tlg_ne
    refine a_nil ?_
    exact go (by decide) hA' hf hkd hr'
  · refine cd_fnX (XB := fun env L => Flown Z P.cF (env :: fr) l) (P.fdef 11 (by decide)).1 hA (m := [("tree", some (.ref t.x)), ("node", some (.int i)), ("name", some (.str "self")), ("parent", none)]) (names := [("tree", .local), ("node", .local), ("name", .local), ("parent", .local), ("list", .globalImplicit), ("siblings_behind", .globalImplicit), ("siblings_ahead", .globalImplicit), ("namespaces_in_scope", .globalImplicit)]) (ps := ["tree", "node", "name"]) (others := ["parent"]) rfl rfl (fun doc pm cdv ct => bind3 fun v0 v1 v2 => rfl) (by decide) rfl (k := 11) hr (fun env L A' hf hkd hA' => leave_body hf hA') ?_
    intro env L A' hE hf hkd hA' hr'
    refine s_cons ?_
    refine s_if ?_
    refine t_cmp ?_
    tlg_ne
    refine r_str ?_
    refine c_eqs (br_f (by decide) ?_)
    refine s_nil ?_
    refine t_cons ?_
    refine s_if ?_
    refine t_cmp ?_
    tlg_ne
    refine r_str ?_
    refine c_eqs (br_t rfl ?_)
    refine s_cons ?_
    refine s_expr (by assumption) ?_
    refine m_own ?_
    tlg_ne
    refine met_t 13 (by decide) (by lcg_sub) (by lcg_sub) (by decide) ?_ mN13
    refine a_cons ?_
    tlg_ne
    refine a_nil ?_
    exact go (by decide) hA' hf hkd hr'
  · refine cd_fnX (XB := fun env L => Flown Z P.cF (env :: fr) l) (P.fdef 11 (by decide)).1 hA (m := [("tree", some (.ref t.x)), ("node", some (.int i)), ("name", some (.str "parent")), ("parent", none)]) (names := [("tree", .local), ("node", .local), ("name", .local), ("parent", .local), ("list", .globalImplicit), ("siblings_behind", .globalImplicit), ("siblings_ahead", .globalImplicit), ("namespaces_in_scope", .globalImplicit)]) (ps := ["tree", "node", "name"]) (others := ["parent"]) rfl rfl (fun doc pm cdv ct => bind3 fun v0 v1 v2 => rfl) (by decide) rfl (k := 11) hr (fun env L A' hf hkd hA' => leave_body hf hA') ?_
    intro env L A' hE hf hkd hA' hr'
    refine s_cons ?_
    refine s_if ?_
    refine t_cmp ?_
    tlg_ne
    refine r_str ?_
    refine c_eqs (br_f (by decide) ?_)
    refine s_nil ?_
    refine t_cons ?_
    refine s_if ?_
    refine t_cmp ?_
    tlg_ne
    refine r_str ?_
    refine c_eqs (br_f (by decide) ?_)
    refine s_nil ?_
    refine t_cons ?_
    refine s_if ?_
    refine t_cmp ?_
    tlg_ne
    refine r_str ?_
    refine c_eqs (br_t rfl ?_)
    refine s_cons ?_
    refine s_assign ?_
    refine m_own ?_
    tlg_ne
    refine met_t 18 (by decide) (by lcg_sub) (by lcg_sub) (by decide) ?_ mN18
    refine a_cons ?_
    tlg_ne
    refine a_nil ?_
    exact go (by decide) hA' hf hkd hr'
  · refine cd_fnX (XB := fun env L => Flown Z P.cF (env :: fr) l) (P.fdef 11 (by decide)).1 hA (m := [("tree", some (.ref t.x)), ("node", some (.int i)), ("name", some (.str "attribute")), ("parent", none)]) (names := [("tree", .local), ("node", .local), ("name", .local), ("parent", .local), ("list", .globalImplicit), ("siblings_behind", .globalImplicit), ("siblings_ahead", .globalImplicit), ("namespaces_in_scope", .globalImplicit)]) (ps := ["tree", "node", "name"]) (others := ["parent"]) rfl rfl (fun doc pm cdv ct => bind3 fun v0 v1 v2 => rfl) (by decide) rfl (k := 11) hr (fun env L A' hf hkd hA' => leave_body hf hA') ?_
    intro env L A' hE hf hkd hA' hr'
    refine s_cons ?_
    refine s_if ?_
    refine t_cmp ?_
    tlg_ne
    refine r_str ?_
    refine c_eqs (br_f (by decide) ?_)
    refine s_nil ?_
    refine t_cons ?_
    refine s_if ?_
    refine t_cmp ?_
    tlg_ne
    refine r_str ?_
    refine c_eqs (br_f (by decide) ?_)
    refine s_nil ?_
    refine t_cons ?_
    refine s_if ?_
    refine t_cmp ?_
    tlg_ne
    refine r_str ?_
    refine c_eqs (br_f (by decide) ?_)
    refine s_nil ?_
    refine t_cons ?_
    refine s_if ?_
    refine t_cmp ?_
    tlg_ne
    refine r_str ?_
    refine c_eqs (br_t rfl ?_)
    refine s_cons ?_
    refine s_ret ?_
    refine r_ifexp ?_
    refine t_cmp ?_
    refine m_own ?_
    tlg_ne
    refine met_t 13 (by decide) (by lcg_sub) (by lcg_sub) (by decide) ?_ mN13
    refine a_cons ?_
    tlg_ne
    refine a_nil ?_
    exact go (by decide) hA' hf hkd hr'
  · refine cd_fnX (XB := fun env L => Flown Z P.cF (env :: fr) l) (P.fdef 11 (by decide)).1 hA (m := [("tree", some (.ref t.x)), ("node", some (.int i)), ("name", some (.str "following-sibling")), ("parent", none)]) (names := [("tree", .local), ("node", .local), ("name", .local), ("parent", .local), ("list", .globalImplicit), ("siblings_behind", .globalImplicit), ("siblings_ahead", .globalImplicit), ("namespaces_in_scope", .globalImplicit)]) (ps := ["tree", "node", "name"]) (others := ["parent"]) rfl rfl (fun doc pm cdv ct => bind3 fun v0 v1 v2 => rfl) (by decide) rfl (k := 11) hr (fun env L A' hf hkd hA' => leave_body hf hA') ?_
    intro env L A' hE hf hkd hA' hr'
    refine s_cons ?_
    refine s_if ?_
    refine t_cmp ?_
    tlg_ne
    refine r_str ?_
    refine c_eqs (br_f (by decide) ?_)
    refine s_nil ?_
    refine t_cons ?_
    refine s_if ?_
    refine t_cmp ?_
    tlg_ne
    refine r_str ?_
    refine c_eqs (br_f (by decide) ?_)
    refine s_nil ?_
    refine t_cons ?_
    refine s_if ?_
    refine t_cmp ?_
    tlg_ne
    refine r_str ?_
    refine c_eqs (br_f (by decide) ?_)
    refine s_nil ?_
    refine t_cons ?_
    refine s_if ?_
    refine t_cmp ?_
    tlg_ne
    refine r_str ?_
    refine c_eqs (br_f (by decide) ?_)
    refine s_nil ?_
    refine t_cons ?_
    refine s_if ?_
    refine t_cmp ?_
    tlg_ne
    refine r_str ?_
    refine c_eqs (br_t rfl ?_)
    refine s_cons ?_
    refine s_ret ?_
    refine r_callf (by assumption) 6 (by decide) (by assumption) (by lcg_sub) ?_ fN6
    refine a_cons ?_
    tlg_ne
    refine a_cons ?_
    tlg_ne
    refine a_nil ?_
    exact go2 (by decide) hA' hf hkd hr'
  · refine cd_fnX (XB := fun env L => Flown Z P.cF (env :: fr) l) (P.fdef 11 (by decide)).1 hA (m := [("tree", some (.ref t.x)), ("node", some (.int i)), ("name", some (.str "preceding-sibling")), ("parent", none)]) (names := [("tree", .local), ("node", .local), ("name", .local), ("parent", .local), ("list", .globalImplicit), ("siblings_behind", .globalImplicit), ("siblings_ahead", .globalImplicit), ("namespaces_in_scope", .globalImplicit)]) (ps := ["tree", "node", "name"]) (others := ["parent"]) rfl rfl (fun doc pm cdv ct => bind3 fun v0 v1 v2 => rfl) (by decide) rfl (k := 11) hr (fun env L A' hf hkd hA' => leave_body hf hA') ?_
    intro env L A' hE hf hkd hA' hr'
    refine s_cons ?_
    refine s_if ?_
    refine t_cmp ?_
    tlg_ne
    refine r_str ?_
    refine c_eqs (br_f (by decide) ?_)
    refine s_nil ?_
    refine t_cons ?_
    refine s_if ?_
    refine t_cmp ?_
    tlg_ne
    refine r_str ?_
    refine c_eqs (br_f (by decide) ?_)
    refine s_nil ?_
    refine t_cons ?_
    refine s_if ?_
    refine t_cmp ?_
    tlg_ne
    refine r_str ?_
    refine c_eqs (br_f (by decide) ?_)
    refine s_nil ?_
    refine t_cons ?_
    refine s_if ?_
    refine t_cmp ?_
    tlg_ne
    refine r_str ?_
    refine c_eqs (br_f (by decide) ?_)
    refine s_nil ?_
    refine t_cons ?_
    refine s_if ?_
    refine t_cmp ?_
    tlg_ne
    refine r_str ?_
    refine c_eqs (br_f (by decide) ?_)
    refine s_nil ?_
    refine t_cons ?_
    refine s_if ?_
    refine t_cmp ?_
    tlg_ne
    refine r_str ?_
    refine c_eqs (br_t rfl ?_)
    refine s_cons ?_
    refine s_ret ?_
    refine r_callf (by assumption) 5 (by decide) (by assumption) (by lcg_sub) ?_ fN5
    refine a_cons ?_
    tlg_ne
    refine a_cons ?_
    tlg_ne
    refine a_nil ?_
    exact go2 (by decide) hA' hf hkd hr'
  · refine cd_fnX (XB := fun env L => Flown Z P.cF (env :: fr) l) (P.fdef 11 (by decide)).1 hA (m := [("tree", some (.ref t.x)), ("node", some (.int i)), ("name", some (.str "namespace")), ("parent", none)]) (names := [("tree", .local), ("node", .local), ("name", .local), ("parent", .local), ("list", .globalImplicit), ("siblings_behind", .globalImplicit), ("siblings_ahead", .globalImplicit), ("namespaces_in_scope", .globalImplicit)]) (ps := ["tree", "node", "name"]) (others := ["parent"]) rfl rfl (fun doc pm cdv ct => bind3 fun v0 v1 v2 => rfl) (by decide) rfl (k := 11) hr (fun env L A' hf hkd hA' => leave_body hf hA') ?_
    intro env L A' hE hf hkd hA' hr'
    refine s_cons ?_
    refine s_if ?_
    refine t_cmp ?_
    tlg_ne
    refine r_str ?_
    refine c_eqs (br_f (by decide) ?_)
    refine s_nil ?_
    refine t_cons ?_
    refine s_if ?_
    refine t_cmp ?_
    tlg_ne
    refine r_str ?_
    refine c_eqs (br_f (by decide) ?_)
    refine s_nil ?_
    refine t_cons ?_
    refine s_if ?_
    refine t_cmp ?_
    tlg_ne
    refine r_str ?_
    refine c_eqs (br_f (by decide) ?_)
    refine s_nil ?_
    refine t_cons ?_
    refine s_if ?_
    refine t_cmp ?_
    tlg_ne
    refine r_str ?_
    refine c_eqs (br_f (by decide) ?_)
    refine s_nil ?_
    refine t_cons ?_
    refine s_if ?_
    refine t_cmp ?_
    tlg_ne
    refine r_str ?_
    refine c_eqs (br_f (by decide) ?_)
    refine s_nil ?_
    refine t_cons ?_
    refine s_if ?_
    refine t_cmp ?_
    tlg_ne
    refine r_str ?_
    refine c_eqs (br_f (by decide) ?_)
    refine s_nil ?_
    refine t_cons ?_
    refine s_if ?_
    refine t_cmp ?_
    tlg_ne
    refine r_str ?_
    refine c_eqs (br_t rfl ?_)
    refine s_cons ?_
    refine s_ret ?_
    refine r_callf (by assumption) 10 (by decide) (by assumption) (by lcg_sub) ?_ fN10
    refine a_cons ?_
    tlg_ne
    refine a_cons ?_
    tlg_ne
    refine a_nil ?_
    exact go2 (by decide) hA' hf hkd hr'
theorem s_try {env : Env} {L : Addr} {names : List (Str × NameKind)} {cells : List (Str × Addr)} {P : PX Z} (FF : FX Z P) {l0 : Led} {body suite : List Stmt} {b₀ : Stmt} {np hp pos : Pos} {Q : AFlow → Led → Prop} (hE : EnvIs env L names cells) (hn : (("TreeFault" : Str), NameKind.globalImplicit) ∈ names) (hf : env.frame = some L) (hA : A.frames = some (env :: fr))
    (h : SV Z A env body l (fun _ _ => False) (Flown Z P.cF (env :: fr) l0))
    (hs : ∀ e, SV Z (A.mark (some e)) env (b₀ :: suite) l0 Q noX) :
    S1 Z A env (.Try body [.ExceptHandler (some (.Name "TreeFault" np)) none (b₀ :: suite) hp] [] [] pos) l Q noX := by
  intro s Q' hsat hQ
  obtain ⟨_, _, _, _, _, _, _, _, _, _, _, _, _, _, hC⟩ := FF.obj
  refine wpAny_Try_except (wpAny_mono (h s (fun _ _ => False) hsat fun _ _ _ _ x => x) (fun f s₁ x => x.elim) fun e s₁ hx => ?_)
  obtain ⟨a, base, a0, rfl, h2, h3, h4, h5, hne⟩ := hx
  obtain ⟨hp1, g1, d1, tk1, os1⟩ := s₁
  refine wpAny_looks_onW hA hf h3 fun h' k1 k2 => ?_
  have hs2 := h2.slots (tk := tk1) h3.1 k1.1 k2 h4 h5 hne
  refine wpAny_landsW k1 fun h'' k3 k4 => ?_
  have hs3 := hs2.slots (tk := tk1) k1.1 k3.1 k4 h4 h5 hne
  refine wpAny_handleBy_cons (codeAny_handlers_test (Name_function_global hE.kind (hE.knd _ hn) (loadGlobal_global (hE.glob ▸ Z.T.g.keeps hs3.keep) FF.g.1 ?_) (by decide))) (by intro q; cases q)
  obtain ⟨oe, ho, hcls⟩ := k3.there
  refine wpAny_excMatches_sub_self (hs3.K _ _ hC) ho hcls (by rw [List.contains_cons]; rfl) ?_
  refine codeAny_handlers_suite (PyProof.Rows.lands_againW k3 fun h3' k5 k6 => ?_)
  have hs4 := hs3.slots (tk := tk1) k3.1 k5.1 k6 h4 h5 hne
  exact wpAny_mono (hs _ _ _ hs4 fun f s' l' hs' q => hQ f s' l' hs' q) (fun _ _ x => x) (fun _ _ x => x.elim)
end
section
variable {Z : Amb} {A : Around} {l : Led} {X : Value → Shared → Prop} {fr : List Env}
theorem refused_ok (P : PX Z) (FF : FX Z P) {t : TreeA} {i : Int} {nm : Str} {Q : AV → Led → Prop} (hn : nm ∈ (("following" : Str) :: ("preceding" : Str) :: axesN)) (hT : In (treeLed P t) l) (hi : i < 0 ∨ t.rows.length ≤ i) (hz : t.rows.length ≤ 100) (hr : Room A 14) (hA : A.frames = some fr) (hk : FrOk fr l)
    (h : Q (.bool true) l) : CD Z A (.ref (P.fa 34)) [.ref t.x, .int i, .str nm] l Q X := by
  refine cd_fnX (XB := fun _ _ => noX) (P.fdef 34 (by decide)).1 hA (m := [("tree", some (.ref t.x)), ("node", some (.int i)), ("name", some (.str nm))]) (names := [("tree", .local), ("node", .local), ("name", .local), ("following", .globalImplicit), ("preceding", .globalImplicit), ("short_axis", .globalImplicit), ("TreeFault", .globalImplicit)]) (ps := ["tree", "node", "name"]) (others := []) rfl rfl (fun doc pm cdv ct => bind3 fun v0 v1 v2 => rfl) (by decide) rfl (k := 13) hr (fun _ _ _ _ _ _ _ _ x => x.elim) ?_
  intro env L A' hE hf hkd hA' hr'
  have hT' : In (treeLed P t) ((L, .frame [("tree", some (.ref t.x)), ("node", some (.int i)), ("name", some (.str nm))]) :: l) := hT.tail
  have hk' : FrOk (env :: fr) ((L, .frame [("tree", some (.ref t.x)), ("node", some (.int i)), ("name", some (.str nm))]) :: l) := (hk.mono fun p hp => .tail _ hp).cons hkd hf (.head _)
  refine s_cons (s_try FF hE (by lcg_sub) hf hA' (l0 := (L, .frame [("tree", some (.ref t.x)), ("node", some (.int i)), ("name", some (.str nm))]) :: l) ?_ fun e => ?_)
  · refine s_cons ?_
    refine s_if ?_
    refine t_cmp ?_
    tlg_ne
    refine r_str ?_
    refine c_eqs ⟨fun e => ?_, fun e => ?_⟩
    · refine s_cons ?_
      refine s_expr (by assumption) ?_
      refine r_callf (by assumption) 8 (by decide) (by assumption) (by lcg_sub) ?_ fN8
      refine a_cons ?_
      tlg_ne
      refine a_cons ?_
      tlg_ne
      refine a_nil ?_
      exact (folX_ok P FF (j := 8) (by decide) hT' hi hz (hr'.le (by decide)) hA' hk').cl
    · refine s_cons ?_
      refine s_if ?_
      refine t_cmp ?_
      tlg_ne
      refine r_str ?_
      refine c_eqs ⟨fun e2 => ?_, fun e2 => ?_⟩
      · refine s_cons ?_
        refine s_expr (by assumption) ?_
        refine r_callf (by assumption) 9 (by decide) (by assumption) (by lcg_sub) ?_ fN9
        refine a_cons ?_
        tlg_ne
        refine a_cons ?_
        tlg_ne
        refine a_nil ?_
        exact (folX_ok P FF (j := 9) (by decide) hT' hi hz (hr'.le (by decide)) hA' hk').cl
      · have hn' : nm ∈ axesN := by
          rcases List.mem_cons.mp hn with rfl | hn
          · rw [beq_self_eq_true] at e; cases e
          · rcases List.mem_cons.mp hn with rfl | hn
            · rw [beq_self_eq_true] at e2; cases e2
            · exact hn
        refine s_cons ?_
        refine s_expr (by assumption) ?_
        refine r_callf (by assumption) 11 (by decide) (by assumption) (by lcg_sub) ?_ fN11
        refine a_cons ?_
        tlg_ne
        refine a_cons ?_
        tlg_ne
        refine a_cons ?_
        tlg_ne
        refine a_nil ?_
        exact (shortX_ok P FF hn' hT' hi hz (hr'.le (by decide)) hA' hk').cl
  · refine s_cons ?_
    refine s_ret ?_
    refine r_bool ?_
    refine thr ?_
    refine thr ?_
    exact Up.drop (Up.here h)
end
noncomputable abbrev namW : List (Str × NameKind) := [("script", .local), ("tree", .local), ("first", .local), ("inner", .local), ("some", .local), ("source", .local), ("rows", .local), ("node", .local), ("here", .local), ("name", .local), ("axes", .local), ("Tree", .globalImplicit), ("preceding", .globalImplicit), ("_law_pool", .globalImplicit), ("_law_grown", .globalImplicit), ("_law_loosened", .globalImplicit), ("following", .globalImplicit), ("_law_behind", .globalImplicit), ("_law_ahead", .globalImplicit), ("_law_one", .globalImplicit), ("list", .globalImplicit), ("_law_short_right", .globalImplicit), ("short_axis", .globalImplicit), ("_law_is_refused", .globalImplicit), ("len", .globalImplicit)]
noncomputable abbrev frW (sc : AV) (tr fi inn so sr ro no he na ax : Option AV) : List (Str × Option AV) := [("script", some sc), ("tree", tr), ("first", fi), ("inner", inn), ("some", so), ("source", sr), ("rows", ro), ("node", no), ("here", he), ("name", na), ("axes", ax)]
noncomputable abbrev QT : AFlow → Led → Prop := fun fl _ => fl = .ret (.bool true)
noncomputable abbrev axA : List AV := [.str "child", .str "self", .str "parent", .str "attribute", .str "following-sibling", .str "preceding-sibling", .str "namespace"]
theorem axA_of {x : AV} (h : x ∈ axA) : ∃ n, n ∈ axesN ∧ AV.str n = x := List.mem_map.mp (show x ∈ axesN.map AV.str from h)
section
variable {Z : Amb} {A : Around} {X : Value → Shared → Prop}
theorem law_D (P : PX Z) (FF : FX Z P) {env : Env} {L so d : Addr} {sc : AV} {a b : Int} {t : TreeA} {qs : List RowA} {ep : Nat} {fi inn som no he na ax : Option AV} {r : Led} (hE : EnvIs env L namW []) (hf : env.frame = some L) (hkd : env.scope.kind = .function) (hA : A.frames = some [env]) (hr : Room A 16)
    (hb0 : 0 ≤ b) (hb : b < M31) (W : Wf t) (R : RowsOK t qs) :
    SV Z A env ((fdB (stAt 35)).drop 12) ((so, .list [.int a, .int b]) :: (L, .frame (frW sc (some (.ref t.x)) fi inn som (some (.ref so)) (some (.ref d)) no he na ax)) :: (d, .dictI (kvs qs) ep) :: (treeLed P t ++ (qsLed qs ++ r))) QT noX := by
  have hz : t.rows.length ≤ 100 := Nat.le_trans W.size (by decide)
  have hTT : In (treeLed P t) (treeLed P t ++ (qsLed qs ++ r)) := In.app
  generalize htl : treeLed P t ++ (qsLed qs ++ r) = tl at hTT ⊢
  clear htl
  refine s_cons ?_
  refine s_assign ?_
  refine r_list ?_
  refine a_cons ?_
  refine r_str ?_
  refine a_cons ?_
  refine r_str ?_
  refine a_cons ?_
  refine r_str ?_
  refine a_cons ?_
  refine r_str ?_
  refine a_cons ?_
  refine r_str ?_
  refine a_cons ?_
  refine r_str ?_
  refine a_cons ?_
  refine r_str ?_
  refine a_nil ?_
  refine ⟨by simp, fun ax => ?_⟩
  isplit
  refine t_cons ?_
  refine s_for ?_
  refine r_list ?_
  refine a_cons ?_
  refine r_callf (by assumption) 25 (by decide) (by assumption) (by lcg_sub) ?_ fN25
  refine a_cons ?_
  tlg_ne
  refine a_cons ?_
  tlg_ne
  refine a_nil ?_
  refine CL.blk1 (p := (so, .list [.int a, .int b])) (by tb_start) (one_ok P hb0 hb (xs := axA) (by simp) (by simp) (by lcg_sub) (hr.le (by decide)) fun a1 b1 x hx hb01 hb1 => ⟨_, rfl, ?_⟩)
  refine a_cons ?_
  refine r_str ?_
  refine a_cons ?_
  refine r_str ?_
  refine a_nil ?_
  refine ⟨by simp, fun li => ?_⟩
  obtain ⟨xn, hxn, rfl⟩ := axA_of hx
  have hall : ∀ (j : Nat) (v : AV), [AV.str xn, AV.str "following", AV.str "preceding"][j]? = some v → ∃ nm : Str, v = .str nm ∧ nm ∈ (("following" : Str) :: ("preceding" : Str) :: axesN) := by
    intro j v hv
    match j with
    | 0 => cases hv; exact ⟨xn, rfl, .tail _ (.tail _ hxn)⟩
    | 1 => cases hv; exact ⟨_, rfl, .head _⟩
    | 2 => cases hv; exact ⟨_, rfl, .tail _ (.head _)⟩
    | k + 3 => cases hv
  generalize hlist : [AV.str xn, AV.str "following", AV.str "preceding"] = xs at hall ⊢
  have hxl : xs.length = 3 := by rw [← hlist]; rfl
  refine iter_list (by lcg_sub) fun it => ?_
  refine inv_sb21 (fun j na => 3 - j) (fun j na => j ≤ 3) (fun j na => (it, .liter li j) :: (li, .list xs) :: (L, .frame (frW sc (some (.ref t.x)) fi inn som (some (.ref so)) (some (.ref d)) no he na (some (.ref ax)))) :: (d, .dictI (kvs qs) ep) :: tl) 0 na (by tb_rel) (Nat.zero_le _) fun J (hNj : ∀ j na, j ≤ 3 → J (3 - j) ((it, .liter li j) :: (li, .list xs) :: (L, .frame (frW sc (some (.ref t.x)) fi inn som (some (.ref so)) (some (.ref d)) no he na (some (.ref ax)))) :: (d, .dictI (kvs qs) ep) :: tl)) j na (hj3 : j ≤ 3) => (?_ : TurnK Z _ _ ((it, .liter li j) :: (li, .list xs) :: (L, .frame (frW sc (some (.ref t.x)) fi inn som (some (.ref so)) (some (.ref d)) no he na (some (.ref ax)))) :: (d, .dictI (kvs qs) ep) :: tl) _ _ _)
  by_cases hj : j < 3
  · right
    refine (fun v hv => ?_ : ∀ v, xs[j]? = some v → _) _ (List.getElem?_eq_getElem (by omega))
    obtain ⟨nm, rfl, hnm⟩ := hall j v hv
    refine ⟨.str nm, _, next_list (by krn_off) (by lcg_sub) hv, ?_⟩
    isplit
    refine s_cons ?_
    refine s_if ?_
    refine t_or2 ?_
    refine t_not ?_
    refine t_call ?_
    refine r_callf (by assumption) 34 (by decide) (by assumption) (by lcg_sub) ?_ fN34
    refine a_cons ?_
    tlg_ne
    refine a_cons ?_
    refine rc_len (by assumption) (by assumption) (by lcg_sub) ?_
    tlg_ne
    refine b_lenD (by lcg_sub) (by rw [kvs_len, R.len]; omega) ?_
    refine a_cons ?_
    tlg_ne
    refine a_nil ?_
    refine CD.cl (refused_ok P FF (t := t) hnm (by lcg_src) (.inr (by rw [kvs_len, R.len]; exact Int.le_refl _)) hz (hr.le (by decide)) hA (FrOk.cons (fr := []) (fun _ h => (nomatch h)) hkd hf (by lcg_sub)) ?_)
    refine ⟨true, rfl, rb_f rfl ?_⟩
    refine t_not ?_
    refine t_call ?_
    refine r_callf (by assumption) 34 (by decide) (by assumption) (by lcg_sub) ?_ fN34
    refine a_cons ?_
    tlg_ne
    refine a_cons ?_
    refine r_negc ?_
    refine a_cons ?_
    tlg_ne
    refine a_nil ?_
    refine CD.cl (refused_ok P FF (t := t) hnm (by lcg_src) (.inl (by decide)) hz (hr.le (by decide)) hA (FrOk.cons (fr := []) (fun _ h => (nomatch h)) hkd hf (by lcg_sub)) ?_)
    refine ⟨true, rfl, br_f rfl ?_⟩
    refine s_nil ?_
    refine t_nil ?_
    exact ⟨3 - (j + 1), _, dec_lt hj, .refl, hNj (j + 1) (some (.str nm)) hj⟩
  · left
    refine ⟨_, end_list hr.hh (by lcg_sub) (by lcg_sub) (by omega) (by lcg_off) (by simp), ?_⟩
    refine t_cons ?_
    refine s_ret ?_
    refine r_bool ?_
    refine thr ?_
    rfl
end
noncomputable abbrev nonA : List AV := [.str "descendant", .str "descendant-or-self", .str "ancestor", .str "ancestor-or-self", .str "following", .str "preceding", .str "up"]
theorem nonA_of {x : AV} (h : x ∈ nonA) : ∃ n, n ∈ (["descendant", "descendant-or-self", "ancestor", "ancestor-or-self", "following", "preceding", "up"] : List Str) ∧ AV.str n = x :=
  List.mem_map.mp (show x ∈ (["descendant", "descendant-or-self", "ancestor", "ancestor-or-self", "following", "preceding", "up"] : List Str).map AV.str from h)
section
variable {Z : Amb} {A : Around} {X : Value → Shared → Prop}
theorem law_C (P : PX Z) (FF : FX Z P) {env : Env} {L so d : Addr} {sc : AV} {a b : Int} {i : Nat} {t : TreeA} {qs : List RowA} {ep : Nat} {fi inn som he na ax : Option AV} {r : Led} (hE : EnvIs env L namW []) (hf : env.frame = some L) (hkd : env.scope.kind = .function) (hA : A.frames = some [env]) (hr : Room A 16)
    (hb0 : 0 ≤ b) (hb : b < M31) (W : Wf t) (R : RowsOK t qs) :
    SV Z A env ((fdB (stAt 35)).drop 11) ((so, .list [.int a, .int b]) :: (L, .frame (frW sc (some (.ref t.x)) fi inn som (some (.ref so)) (some (.ref d)) (some (.int i)) he na ax)) :: (d, .dictI (kvs qs) ep) :: (treeLed P t ++ (qsLed qs ++ r))) QT noX := by
  have D := fun na => law_D P FF (sc := sc) (a := a) (ep := ep) (fi := fi) (inn := inn) (som := som) (no := some (.int i)) (he := he) (na := na) (ax := ax) (so := so) (d := d) (r := r) hE hf hkd hA hr hb0 hb W R
  generalize treeLed P t ++ (qsLed qs ++ r) = tl at D ⊢
  refine s_cons ?_
  refine s_for ?_
  refine r_list ?_
  refine a_cons ?_
  refine r_str ?_
  refine a_cons ?_
  refine r_str ?_
  refine a_cons ?_
  refine r_str ?_
  refine a_cons ?_
  refine r_str ?_
  refine a_cons ?_
  refine r_str ?_
  refine a_cons ?_
  refine r_str ?_
  refine a_cons ?_
  refine r_str ?_
  refine a_nil ?_
  refine ⟨by simp, fun li => ?_⟩
  have hall : ∀ (j : Nat) (v : AV), nonA[j]? = some v → ∃ nm : Str, v = .str nm ∧ nm ∈ (["descendant", "descendant-or-self", "ancestor", "ancestor-or-self", "following", "preceding", "up"] : List Str) := by
    intro j v hv
    obtain ⟨n, h1, h2⟩ := nonA_of (List.mem_of_getElem? hv)
    exact ⟨n, h2.symm, h1⟩
  have hxl : nonA.length = 7 := rfl
  show ITER Z A (.ref li) ((li, .list nonA) :: _) _ _
  generalize nonA = xs at hall hxl ⊢
  refine iter_list (by lcg_sub) fun it => ?_
  refine inv_sb21 (fun j na => 7 - j) (fun j na => j ≤ 7) (fun j na => (it, .liter li j) :: (li, .list xs) :: (so, .list [.int a, .int b]) :: (L, .frame (frW sc (some (.ref t.x)) fi inn som (some (.ref so)) (some (.ref d)) (some (.int i)) he na ax)) :: (d, .dictI (kvs qs) ep) :: tl) 0 na Sb.refl (Nat.zero_le _) fun J (hNj : ∀ j na, j ≤ 7 → J (7 - j) ((it, .liter li j) :: (li, .list xs) :: (so, .list [.int a, .int b]) :: (L, .frame (frW sc (some (.ref t.x)) fi inn som (some (.ref so)) (some (.ref d)) (some (.int i)) he na ax)) :: (d, .dictI (kvs qs) ep) :: tl)) j na (hj3 : j ≤ 7) => (?_ : TurnK Z _ _ ((it, .liter li j) :: (li, .list xs) :: (so, .list [.int a, .int b]) :: (L, .frame (frW sc (some (.ref t.x)) fi inn som (some (.ref so)) (some (.ref d)) (some (.int i)) he na ax)) :: (d, .dictI (kvs qs) ep) :: tl) _ _ _)
  by_cases hj : j < 7
  · right
    refine (fun v hv => ?_ : ∀ v, xs[j]? = some v → _) _ (List.getElem?_eq_getElem (by omega))
    obtain ⟨nm, rfl, hnm⟩ := hall j v hv
    refine ⟨.str nm, _, next_list (by krn_off) (by lcg_sub) hv, ?_⟩
    isplit
    refine s_cons ?_
    refine s_if ?_
    refine t_cmp ?_
    refine r_callf (by assumption) 11 (by decide) (by assumption) (by lcg_sub) ?_ fN11
    refine a_cons ?_
    tlg_ne
    refine a_cons ?_
    tlg_ne
    refine a_cons ?_
    tlg_ne
    refine a_nil ?_
    refine CD.cl (shortNone_ok P (t := t) hnm (hr.le (by decide)) ?_)
    refine r_none ?_
    refine c_isnot rfl (br_f rfl ?_)
    refine s_nil ?_
    refine t_nil ?_
    exact ⟨7 - (j + 1), _, dec_lt hj, .refl, hNj (j + 1) (some (.str nm)) hj⟩
  · left
    refine ⟨_, end_list hr.hh (by lcg_sub) (by lcg_sub) (by omega) (by lcg_off) (by simp), ?_⟩
    refine thn ?_
    refine TR.subperm (D na) (by tb_rel)
theorem law_B (P : PX Z) (FF : FX Z P) {env : Env} {L so d : Addr} {sc : AV} {a b : Int} {t : TreeA} {qs : List RowA} {ep : Nat} {fi inn som no he na ax : Option AV} {r : Led} (hE : EnvIs env L namW []) (hf : env.frame = some L) (hkd : env.scope.kind = .function) (hA : A.frames = some [env]) (hr : Room A 16)
    (hb0 : 0 ≤ b) (hb : b < M31) (W : Wf t) (R : RowsOK t qs) (hn : t.rows.length ≤ 11) (h0 : 0 < t.rows.length) :
    SV Z A env ((fdB (stAt 35)).drop 9) ((so, .list [.int a, .int b]) :: (L, .frame (frW sc (some (.ref t.x)) fi inn som (some (.ref so)) (some (.ref d)) no he na ax)) :: (d, .dictI (kvs qs) ep) :: (treeLed P t ++ (qsLed qs ++ r))) QT noX := by
  have C := fun a b i he (hb0 : 0 ≤ b) (hb : b < M31) => law_C P FF (sc := sc) (a := a) (b := b) (i := i) (ep := ep) (fi := fi) (inn := inn) (som := som) (he := he) (na := na) (ax := ax) (so := so) (d := d) (r := r) hE hf hkd hA hr hb0 hb W R
  have hT : In (treeLed P t) (treeLed P t ++ (qsLed qs ++ r)) := In.app
  have hQ : In (qsLed qs) (treeLed P t ++ (qsLed qs ++ r)) := fun q hq => List.mem_append_right _ (In.app q hq)
  generalize treeLed P t ++ (qsLed qs ++ r) = tl at C hT hQ ⊢
  have hqn := R.len
  have hql : (kvs qs).length ≤ 100 := by rw [kvs_len]; omega
  have hwz : ∀ q ∈ qs, q.way.length ≤ 30 := by
    intro q hq
    obtain ⟨k, hk⟩ := List.getElem?_of_mem hq
    have h1 := (R.row k q hk).2.len W
    have h2 := (List.getElem?_eq_some_iff.mp hk).1
    omega
  have drawn : ∀ {x : AV}, x ∈ inl (List.range qs.length) → ∃ i : Nat, x = .int i ∧ i < qs.length := by
    intro x hx
    obtain ⟨y, hy, rfl⟩ := List.mem_map.mp hx
    obtain ⟨k, hk, rfl⟩ := List.mem_map.mp hy
    exact ⟨k, rfl, List.mem_range.mp hk⟩
  have hne : inl (List.range qs.length) ≠ [] := fun e => by
    have := congrArg List.length e
    simp only [List.length_map, List.length_range, List.length_nil] at this
    omega
  refine s_cons ?_
  refine s_assign ?_
  refine r_callf (by assumption) 25 (by decide) (by assumption) (by lcg_sub) ?_ fN25
  refine a_cons ?_
  tlg_ne
  refine a_cons ?_
  refine rc_list (by assumption) (by assumption) (by lcg_sub) ?_
  tlg_ne
  refine b_listD hr.hh (by lcg_sub) (by omega) fun l1 => ?_
  rw [kvs_keys]
  refine a_nil ?_
  refine CL.blk1 (p := (so, .list [.int a, .int b])) (by tb_start) (one_ok P hb0 hb (xs := inl (List.range qs.length)) hne (by simp only [List.length_map, List.length_range]; omega) (by lcg_sub) (hr.le (by decide)) fun a1 b1 x hx hb01 hb1 => ⟨_, rfl, ?_⟩)
  obtain ⟨i, rfl, hi⟩ := drawn hx
  isplit
  refine t_cons ?_
  refine s_for ?_
  refine r_list ?_
  refine a_cons ?_
  tlg_ne
  refine a_cons ?_
  refine r_callf (by assumption) 25 (by decide) (by assumption) (by lcg_sub) ?_ fN25
  refine a_cons ?_
  tlg_ne
  refine a_cons ?_
  refine rc_list (by assumption) (by assumption) (by lcg_sub) ?_
  tlg_ne
  refine b_listD hr.hh (by lcg_sub) (by omega) fun l2 => ?_
  rw [kvs_keys]
  refine a_nil ?_
  refine CL.blk1 (p := (so, .list [.int a1, .int b1])) (by tb_start) (one_ok P hb01 hb1 (xs := inl (List.range qs.length)) hne (by simp only [List.length_map, List.length_range]; omega) (by lcg_sub) (hr.le (by decide)) fun a2 b2 x hx hb02 hb2 => ⟨_, rfl, ?_⟩)
  obtain ⟨k, rfl, hk⟩ := drawn hx
  refine a_nil ?_
  refine ⟨by simp, fun li => ?_⟩
  refine iter_list (by lcg_sub) fun it => ?_
  refine inv_sb21 (fun j he => 2 - j) (fun j he => j ≤ 2) (fun j he => (it, .liter li j) :: (li, .list (inl [i, k])) :: (so, .list [.int a2, .int b2]) :: (L, .frame (frW sc (some (.ref t.x)) fi inn som (some (.ref so)) (some (.ref d)) (some (.int i)) he na ax)) :: (d, .dictI (kvs qs) ep) :: tl) 0 he (by tb_rel) (Nat.zero_le _) fun J (hNj : ∀ j he, j ≤ 2 → J (2 - j) ((it, .liter li j) :: (li, .list (inl [i, k])) :: (so, .list [.int a2, .int b2]) :: (L, .frame (frW sc (some (.ref t.x)) fi inn som (some (.ref so)) (some (.ref d)) (some (.int i)) he na ax)) :: (d, .dictI (kvs qs) ep) :: tl)) j he (hj3 : j ≤ 2) => (?_ : TurnK Z _ _ ((it, .liter li j) :: (li, .list (inl [i, k])) :: (so, .list [.int a2, .int b2]) :: (L, .frame (frW sc (some (.ref t.x)) fi inn som (some (.ref so)) (some (.ref d)) (some (.int i)) he na ax)) :: (d, .dictI (kvs qs) ep) :: tl) _ _ _)
  by_cases hj : j < 2
  · right
    obtain ⟨v, hv, hvl⟩ : ∃ v, [i, k][j]? = some v ∧ v < qs.length := by
      match j, hj with
      | 0, _ => exact ⟨i, rfl, hi⟩
      | 1, _ => exact ⟨k, rfl, hk⟩
    refine ⟨.int v, _, next_list (by krn_off) (by lcg_sub) (by rw [List.getElem?_map, List.getElem?_map, hv]; rfl), ?_⟩
    refine (fun rv hrv => ?_ : ∀ rv, qs[v]? = some rv → _) _ (List.getElem?_eq_getElem hvl)
    refine (fun nd hnd => ?_ : ∀ nd, t.rows[v]? = some nd → _) _ (List.getElem?_eq_getElem (by omega))
    obtain ⟨like, as, F⟩ := short_law W R hrv hn
    isplit
    refine s_cons ?_
    refine s_if ?_
    refine t_not ?_
    refine t_call ?_
    refine r_callf (by assumption) 33 (by decide) (by assumption) (by lcg_sub) ?_ fN33
    refine a_cons ?_
    tlg_ne
    refine a_cons ?_
    tlg_ne
    refine a_cons ?_
    tlg_ne
    refine a_nil ?_
    refine CD.cl (shortRight_ok P (by lcg_src) W.good hnd (by lcg_sub) (by lcg_src) hrv (by omega) hwz F (hr.le (by decide)) ?_)
    refine ⟨true, rfl, br_f rfl ?_⟩
    refine s_nil ?_
    refine t_nil ?_
    exact ⟨2 - (j + 1), _, dec_lt hj, .refl, hNj (j + 1) (some (.int v)) hj⟩
  · left
    refine ⟨_, end_list hr.hh (by lcg_sub) (by lcg_sub) (by first | exact len_map_le (len_map_le (by omega)) | exact len_map_le (by omega) | (simp; omega)) (by lcg_off) (by simp), ?_⟩
    refine thn ?_
    refine TR.subperm (C a2 b2 i he hb02 hb2) (by tb_rel)
end
theorem Wf.chainLen {t : TreeA} (W : Wf t) : ∀ (o : Option Nat) (as : List Nat), Chain t.pars o as → as.length ≤ 90 := by
  intro o as h
  cases h with
  | nil => exact Nat.zero_le _
  | @cons p as h =>
    have := h.len (fun k p e => (W.pars_lt e).1) (m := t.rows.length) (fun k e => by have := W.pars_lt e; omega)
    have := W.size
    simp only [List.length_cons]
    omega
section
variable {Z : Amb} {A : Around} {X : Value → Shared → Prop}
theorem law_A (P : PX Z) (FF : FX Z P) {env : Env} {L so d : Addr} {sc : AV} {a b : Int} {t : TreeA} {qs : List RowA} {ep : Nat} {fi inn som no he na ax : Option AV} {r : Led} (hE : EnvIs env L namW []) (hf : env.frame = some L) (hkd : env.scope.kind = .function) (hA : A.frames = some [env]) (hr : Room A 16)
    (hb0 : 0 ≤ b) (hb : b < M31) (W : Wf t) (R : RowsOK t qs) (hn : t.rows.length ≤ 11) (h0 : 0 < t.rows.length) :
    SV Z A env ((fdB (stAt 35)).drop 8) ((so, .list [.int a, .int b]) :: (L, .frame (frW sc (some (.ref t.x)) fi inn som (some (.ref so)) (some (.ref d)) no he na ax)) :: (d, .dictI (kvs qs) ep) :: (treeLed P t ++ (qsLed qs ++ r))) QT noX := by
  have B := fun no => law_B P FF (sc := sc) (a := a) (b := b) (ep := ep) (fi := fi) (inn := inn) (som := som) (no := no) (he := he) (na := na) (ax := ax) (so := so) (d := d) (r := r) hE hf hkd hA hr hb0 hb W R hn h0
  have hT : In (treeLed P t) (treeLed P t ++ (qsLed qs ++ r)) := In.app
  have hQ : In (qsLed qs) (treeLed P t ++ (qsLed qs ++ r)) := fun q hq => List.mem_append_right _ (In.app q hq)
  generalize treeLed P t ++ (qsLed qs ++ r) = tl at B hT hQ ⊢
  have hqn := R.len
  have H := R.ways W
  have hwz : ∀ q ∈ qs, q.way.length ≤ 50 ∧ q.way ≠ [] := by
    intro q hq
    obtain ⟨k, hk⟩ := List.getElem?_of_mem hq
    have h1 := (R.row k q hk).2.len W
    have h2 := (List.getElem?_eq_some_iff.mp hk).1
    refine ⟨by omega, ?_⟩
    rw [← wayL_of hk]
    exact H.ne (by omega)
  have hnd : ∀ (i j : Nat) (a b : RowA), qs[i]? = some a → qs[j]? = some b → a.way = b.way → i = j := by
    intro i j a b h1 h2 e
    have l1 := (List.getElem?_eq_some_iff.mp h1).1
    have l2 := (List.getElem?_eq_some_iff.mp h2).1
    exact H.inj (by omega) (by omega) (by rw [wayL_of h1, wayL_of h2, e])
  refine s_cons ?_
  refine s_for ?_
  tlg_ne
  refine iter_dict (by lcg_sub) fun it => ?_
  refine inv_sb21 (fun j no => qs.length - j) (fun j no => j ≤ qs.length) (fun j no => (it, .kiter d j (kvs qs).length ep) :: (so, .list [.int a, .int b]) :: (L, .frame (frW sc (some (.ref t.x)) fi inn som (some (.ref so)) (some (.ref d)) no he na ax)) :: (d, .dictI (kvs qs) ep) :: tl) 0 no Sb.refl (Nat.zero_le _) fun J (hNj : ∀ j no, j ≤ qs.length → J (qs.length - j) ((it, .kiter d j (kvs qs).length ep) :: (so, .list [.int a, .int b]) :: (L, .frame (frW sc (some (.ref t.x)) fi inn som (some (.ref so)) (some (.ref d)) no he na ax)) :: (d, .dictI (kvs qs) ep) :: tl)) j no (hjl : j ≤ qs.length) => (?_ : TurnK Z _ _ ((it, .kiter d j (kvs qs).length ep) :: (so, .list [.int a, .int b]) :: (L, .frame (frW sc (some (.ref t.x)) fi inn som (some (.ref so)) (some (.ref d)) no he na ax)) :: (d, .dictI (kvs qs) ep) :: tl) _ _ _)
  by_cases hj : j < qs.length
  · right
    refine (fun rj hrj => ?_ : ∀ rj, qs[j]? = some rj → _) _ (List.getElem?_eq_getElem hj)
    refine (fun nd hni => ?_ : ∀ nd, t.rows[j]? = some nd → _) _ (List.getElem?_eq_getElem (by omega))
    obtain ⟨o1, f1, f2, f3⟩ := follow_law W R hrj
    obtain ⟨o2, p1, p2, p3⟩ := precede_law W R hrj
    refine ⟨.int j, _, next_dict (by krn_off) (by lcg_sub) (kvs_get hrj), ?_⟩
    isplit
    refine s_cons ?_
    refine s_if ?_
    refine t_or2 ?_
    refine t_cmp ?_
    refine r_callf (by assumption) 8 (by decide) (by assumption) (by lcg_sub) ?_ fN8
    refine a_cons ?_
    tlg_ne
    refine a_cons ?_
    tlg_ne
    refine a_nil ?_
    refine CD.cl (following_ok P (by lcg_src) W.good hni f1 W.chainLen f2 (hr.le (by decide)) fun c1 => ?_)
    refine r_callf (by assumption) 30 (by decide) (by assumption) (by lcg_sub) ?_ fN30
    refine a_cons ?_
    tlg_ne
    refine a_cons ?_
    tlg_ne
    refine a_nil ?_
    refine CD.cl (behind_ok P (by lcg_sub) (by lcg_src) hrj (by omega) hwz hnd (hr.le (by decide)) f3 fun c2 => ?_)
    refine c_nel (ns := nl o1) (ms := nl o1) (by lcg_sub) (by lcg_sub) hr.cl ?_
    rw [decide_eq_true rfl]
    refine rb_f rfl ?_
    refine t_cmp ?_
    refine r_callf (by assumption) 9 (by decide) (by assumption) (by lcg_sub) ?_ fN9
    refine a_cons ?_
    tlg_ne
    refine a_cons ?_
    tlg_ne
    refine a_nil ?_
    refine CD.cl (preceding_ok P (by lcg_src) W.good hni p1 W.chainLen p2 (hr.le (by decide)) fun c3 => ?_)
    refine r_callf (by assumption) 31 (by decide) (by assumption) (by lcg_sub) ?_ fN31
    refine a_cons ?_
    tlg_ne
    refine a_cons ?_
    tlg_ne
    refine a_nil ?_
    refine CD.cl (ahead_ok P (by lcg_sub) (by lcg_src) hrj (by omega) hwz hnd (hr.le (by decide)) p3 fun c4 => ?_)
    refine c_nel (ns := nl o2) (ms := nl o2) (by lcg_sub) (by lcg_sub) hr.cl ?_
    rw [decide_eq_true rfl]
    refine br_f rfl ?_
    refine s_nil ?_
    refine t_nil ?_
    refine ⟨qs.length - (j + 1), _, dec_lt hj, ?_, hNj (j + 1) (some (.int j)) hj⟩
    tb_rel
  · left
    have hje : j = qs.length := Nat.le_antisymm hjl (Nat.le_of_not_lt hj)
    subst hje
    refine ⟨_, end_dict hr.hh (by lcg_sub) (by lcg_sub) (by rw [kvs_len]; omega) (by lcg_off) (by simp), ?_⟩
    refine thn ?_
    exact TR.subperm (B no) (by tb_rel)
end
noncomputable abbrev T1 (x d r : Addr) (n0 : Addr × Addr × Addr × Addr × Addr) : TreeA := TreeA.add ⟨x, d, r, []⟩ (rootN n0.1 n0.2.1 n0.2.2.1 n0.2.2.2.1 n0.2.2.2.2)
noncomputable abbrev kidN (n : Addr × Addr × Addr × Addr × Addr) (kind name uri loc val : Str) (p : Nat) : NodeA := newNode n.1 n.2.1 n.2.2.1 n.2.2.2.1 n.2.2.2.2 kind name uri loc val (some p)
noncomputable abbrev T2 (x d r : Addr) (n0 n1 : Addr × Addr × Addr × Addr × Addr) : TreeA := (T1 x d r n0).child (kidN n1 "element" "r" "" "r" "" 0)
noncomputable abbrev T3 (x d r : Addr) (n0 n1 n2 : Addr × Addr × Addr × Addr × Addr) : TreeA := (T2 x d r n0 n1).child (kidN n2 "element" "e" "" "e" "" 1)
noncomputable abbrev T4 (x d r : Addr) (n0 n1 n2 n3 : Addr × Addr × Addr × Addr × Addr) : TreeA := (T3 x d r n0 n1 n2).child (kidN n3 "text" "" "" "" "x" 2)
noncomputable abbrev T5 (x d r : Addr) (n0 n1 n2 n3 n4 : Addr × Addr × Addr × Addr × Addr) : TreeA := (T4 x d r n0 n1 n2 n3).child (kidN n4 "comment" "" "" "" "c" 1)
section
variable {x d r : Addr} {n0 n1 n2 n3 n4 : Addr × Addr × Addr × Addr × Addr}
theorem GF.kid' {t : TreeA} {qs : List RowA} {inner : List Nat} {j : Nat} (G : GF t qs inner j) (hj : j < 10) {n : Addr × Addr × Addr × Addr × Addr} {kind name uri loc val : Str} {p : Nat} {rp : RowA}
    (hk : Mine.beside kind = false ∧ kind ∈ sixKinds ∧ kind ≠ "root" ∧ kind ≠ "namespace" ∧ kind ≠ "attribute") (hp : qs[p]? = some rp) (hpk : t.kinds p = "root" ∨ t.kinds p = "element") : ∃ qs', GF (t.child (kidN n kind name uri loc val p)) (qs ++ qs') inner (j + 1) := by
  have hl : p < t.rows.length := by rw [← G.rows.len]; exact (List.getElem?_eq_some_iff.mp hp).1
  rw [child_grow hk.2.2.2.2 hk.2.2.2.1]
  exact ⟨_, G.kid (q := 0) (w := 0) hj hk (fun q e => by cases e; exact hl) (fun q e => by cases e; exact hpk) (fun e => (by cases e)) (fun q e => by cases e; exact (G.rows.row p rp hp).2)⟩
theorem wf5 : Wf (T5 x d r n0 n1 n2 n3 n4) := by
  have G2 : GF (T2 x d r n0 n1) [⟨0, 0, "root", [0]⟩, ⟨0, 0, "element", [0, 1]⟩] [0, 1] 0 := grown_start
  obtain ⟨q3, G3⟩ := G2.kid' (by decide) (n := n2) (kind := "element") (name := "e") (uri := "") (loc := "e") (val := "") (p := 1) (rp := ⟨0, 0, "element", [0, 1]⟩) (by decide) rfl (.inr rfl)
  have l3 : q3.length = 1 := by
    have h1 := G3.rows.len
    have h2 := G3.len
    simp at h1
    omega
  obtain ⟨r2, hr2⟩ : ∃ r2, q3 = [r2] := by
    match q3, l3 with
    | [a], _ => exact ⟨a, rfl⟩
  subst hr2
  obtain ⟨q4, G4⟩ := G3.kid' (by decide) (n := n3) (kind := "text") (name := "") (uri := "") (loc := "") (val := "x") (p := 2) (rp := r2) (by decide) rfl (.inr rfl)
  obtain ⟨q5, G5⟩ := G4.kid' (by decide) (n := n4) (kind := "comment") (name := "") (uri := "") (loc := "") (val := "c") (p := 1) (rp := ⟨0, 0, "element", [0, 1]⟩) (by decide) rfl (.inr rfl)
  exact G5.wf
theorem pre5 : Preceding (T5 x d r n0 n1 n2 n3 n4) 4 [3, 2] := by
  have e1 : (T5 x d r n0 n1 n2 n3 n4).kinds 4 = "comment" := rfl
  refine .plain (as := [1, 0]) (by rw [e1]; decide) (.cons (.cons .nil)) ?_
  refine .cons (ds := [3, 2]) (fs := []) ?_ (.cons (ds := []) (fs := []) ?_ (.cons (ds := []) (fs := []) ?_ .nil))
  · have e : (T5 x d r n0 n1 n2 n3 n4).aheadN 4 = [2] := rfl
    rw [e]
    refine .cons (ds := [2, 3]) (fs := []) (.cons ?_) .nil
    have e2 : (T5 x d r n0 n1 n2 n3 n4).chs 2 ++ [] = [3] := rfl
    rw [e2]
    refine .cons ?_
    have e3 : (T5 x d r n0 n1 n2 n3 n4).chs 3 ++ [] = [] := rfl
    rw [e3]
    exact .nil
  · have e : (T5 x d r n0 n1 n2 n3 n4).aheadN 1 = [] := rfl
    rw [e]; exact .nil
  · have e : (T5 x d r n0 n1 n2 n3 n4).aheadN 0 = [] := rfl
    rw [e]; exact .nil
end
section
variable {Z : Amb} {A : Around} {X : Value → Shared → Prop}
theorem CL.sb {f : Value} {args : List AV} {l l2 : Led} {Q : AV → Led → Prop} (hs : Sb l2 l) (h : CL Z A f args l2 Q X) : CL Z A f args l Q X := fun vs e => TR.subperm (h vs e) hs
theorem Sb.nil {l : Led} : Sb [] l := ⟨[], .refl _, List.nil_sublist _⟩
theorem pullP {so d f : Addr × AObj} {T B : Led} : (so :: f :: d :: (T ++ (B ++ []))).Perm (so :: d :: (T ++ (B ++ [f]))) := by
  refine (List.Perm.cons _ ((List.Perm.swap _ _ _).trans (List.Perm.cons _ ?_)))
  rw [List.append_nil, ← List.append_assoc]
  exact (List.perm_append_singleton _ _).symm
theorem pullL {so d f : Addr × AObj} {T B : Led} : Sb (so :: f :: d :: (T ++ (B ++ []))) (so :: d :: (T ++ (B ++ [f]))) := .ofPerm pullP
theorem law_body (P : PX Z) (FF : FX Z P) {env : Env} {L sc : Addr} {items : Array Value} {ns : List Int} (hE : EnvIs env L namW []) (hf : env.frame = some L) (hkd : env.scope.kind = .function) (hA : A.frames = some [env]) (hr : Room A 18)
    (hs : Z.h₀.IsList sc items) (hi : IntsAre items.toList ns) (hz : items.size ≤ 1000) :
    SV Z A env (fdB (stAt 35)) [(L, .frame (frW (.ref sc) none none none none none none none none none none))] QT noX := by
  refine s_cons ?_
  refine s_assign ?_
  refine r_call0 (by assumption) (by lcg_sub) P.mkT.2.2.2.1 P.mkT.2.2.2.2 ?_
  refine CL.post (tree_ok P (hr.le (by decide)) (Q := fun v l' => ∃ x d r, v = .ref x ∧ l' = treeLed P ⟨x, d, r, []⟩ ++ _) fun x d r => ⟨x, d, r, rfl, rfl⟩) ?_
  rintro _ _ ⟨x, d0, r0, rfl, rfl⟩
  refine ⟨(L, .frame (frW (.ref sc) none none none none none none none none none none)) :: (treeLed P ⟨x, d0, r0, []⟩ ++ []), .ofPerm List.perm_middle.symm, ?_⟩
  have m1 := tree_in1 (P := P) (t := ⟨x, d0, r0, []⟩) (l := treeLed P ⟨x, d0, r0, []⟩ ++ []) In.app
  have m2 := tree_in2 (P := P) (t := ⟨x, d0, r0, []⟩) (l := treeLed P ⟨x, d0, r0, []⟩ ++ []) In.app
  have m3 := tree_in3 (P := P) (t := ⟨x, d0, r0, []⟩) (l := treeLed P ⟨x, d0, r0, []⟩ ++ []) In.app
  isplit
  refine t_cons ?_
  refine s_assign ?_
  refine m_own ?_
  tlg_ne
  refine met_t 5 (by decide) (by lcg_sub) (by lcg_sub) (by decide) ?_ mN5
  refine a_cons ?_
  refine m_own0 ?_
  tlg_ne
  refine met_t 3 (by decide) (by lcg_sub) (by lcg_sub) (by decide) ?_ mN3
  refine CL.blk (T := treeLed P ⟨x, d0, r0, []⟩) (by tb_start) (newRoot_ok P (t := ⟨x, d0, r0, []⟩) (by show 0 ≤ 50; decide) (hr.le (by decide)) fun x0 d1 c1 a1 e1 => ⟨_, rfl, ?_⟩)
  have m1 := tree_in1 (P := P) (t := T1 x d0 r0 (x0, d1, c1, a1, e1)) (l := treeLed P (T1 x d0 r0 (x0, d1, c1, a1, e1)) ++ []) In.app
  have m2 := tree_in2 (P := P) (t := T1 x d0 r0 (x0, d1, c1, a1, e1)) (l := treeLed P (T1 x d0 r0 (x0, d1, c1, a1, e1)) ++ []) In.app
  have m3 := tree_in3 (P := P) (t := T1 x d0 r0 (x0, d1, c1, a1, e1)) (l := treeLed P (T1 x d0 r0 (x0, d1, c1, a1, e1)) ++ []) In.app
  refine a_cons ?_
  refine r_str ?_
  refine a_cons ?_
  refine r_str ?_
  refine a_cons ?_
  refine r_str ?_
  refine a_nil ?_
  refine CL.blk (T := treeLed P (T1 x d0 r0 (x0, d1, c1, a1, e1))) (by tb_start) (addElement_ok P (t := T1 x d0 r0 (x0, d1, c1, a1, e1)) (par := some 0) (fun p e => by cases e; exact ⟨_, rfl, .inl rfl, by show 0 ≤ 50; decide⟩) (by show 1 ≤ 50; decide) (hr.le (by decide)) fun x1 d2 c2 a2 e2 => ⟨_, rfl, ?_⟩)
  show ST Z A _ (.int ((1 : Nat) : Int)) _ _ _
  generalize hn0 : (x0, d1, c1, a1, e1) = n0 at m1 m2 m3 ⊢
  generalize hn1 : (x1, d2, c2, a2, e2) = n1
  have ht2 : (T1 x d0 r0 n0).child (newNode x1 d2 c2 a2 e2 "element" "r" "" "r" "" (some 0)) = T2 x d0 r0 n0 n1 := by rw [← hn1]
  rw [ht2]
  clear hn0 hn1 ht2 m1 m2 m3
  have m1 := tree_in1 (P := P) (t := T2 x d0 r0 n0 n1) (l := treeLed P (T2 x d0 r0 n0 n1) ++ []) In.app
  have m2 := tree_in2 (P := P) (t := T2 x d0 r0 n0 n1) (l := treeLed P (T2 x d0 r0 n0 n1) ++ []) In.app
  have m3 := tree_in3 (P := P) (t := T2 x d0 r0 n0 n1) (l := treeLed P (T2 x d0 r0 n0 n1) ++ []) In.app
  isplit
  refine t_cons ?_
  refine s_assign ?_
  refine m_own ?_
  tlg_ne
  refine met_t 5 (by decide) (by lcg_sub) (by lcg_sub) (by decide) ?_ mN5
  refine a_cons ?_
  tlg_ne
  refine a_cons ?_
  refine r_str ?_
  refine a_cons ?_
  refine r_str ?_
  refine a_cons ?_
  refine r_str ?_
  refine a_nil ?_
  refine CL.blk (T := treeLed P (T2 x d0 r0 n0 n1)) (by tb_start) (addElement_ok P (t := T2 x d0 r0 n0 n1) (par := some 1) (fun p e => by cases e; exact ⟨_, rfl, .inr rfl, by show 0 ≤ 50; decide⟩) (by show 2 ≤ 50; decide) (hr.le (by decide)) fun x2 d2 c2 a2 e2 => ⟨_, rfl, ?_⟩)
  show ST Z A _ (.int ((2 : Nat) : Int)) _ _ _
  generalize hn2 : (x2, d2, c2, a2, e2) = n2
  have ht3 : (T2 x d0 r0 n0 n1).child (newNode x2 d2 c2 a2 e2 "element" "e" "" "e" "" (some 1)) = T3 x d0 r0 n0 n1 n2 := by rw [← hn2]
  rw [ht3]
  clear hn2 ht3 m1 m2 m3
  have m1 := tree_in1 (P := P) (t := T3 x d0 r0 n0 n1 n2) (l := treeLed P (T3 x d0 r0 n0 n1 n2) ++ []) In.app
  have m2 := tree_in2 (P := P) (t := T3 x d0 r0 n0 n1 n2) (l := treeLed P (T3 x d0 r0 n0 n1 n2) ++ []) In.app
  have m3 := tree_in3 (P := P) (t := T3 x d0 r0 n0 n1 n2) (l := treeLed P (T3 x d0 r0 n0 n1 n2) ++ []) In.app
  isplit
  refine t_cons ?_
  refine s_assign ?_
  refine r_list ?_
  refine a_cons ?_
  refine m_own ?_
  tlg_ne
  refine met_t 6 (by decide) (by lcg_sub) (by lcg_sub) (by decide) ?_ mN6
  refine a_cons ?_
  tlg_ne
  refine a_cons ?_
  refine r_str ?_
  refine a_nil ?_
  refine CL.blk (T := treeLed P (T3 x d0 r0 n0 n1 n2)) (by tb_start) (addText_ok P (t := T3 x d0 r0 n0 n1 n2) (par := some 2) (fun p e => by cases e; exact ⟨_, rfl, .inr rfl, by show 0 ≤ 50; decide⟩) (by show 3 ≤ 50; decide) (hr.le (by decide)) fun x3 d3 c3 a3 e3 => ⟨_, rfl, ?_⟩)
  rw [show ((T3 x d0 r0 n0 n1 n2).rows.length : Int) = ((3 : Nat) : Int) from rfl]
  generalize hn3 : (x3, d3, c3, a3, e3) = n3
  have ht4 : (T3 x d0 r0 n0 n1 n2).child (newNode x3 d3 c3 a3 e3 "text" "" "" "" "x" (some 2)) = T4 x d0 r0 n0 n1 n2 n3 := by rw [← hn3]
  rw [ht4]
  clear hn3 ht4 m1 m2 m3
  have m1 := tree_in1 (P := P) (t := T4 x d0 r0 n0 n1 n2 n3) (l := treeLed P (T4 x d0 r0 n0 n1 n2 n3) ++ []) In.app
  have m2 := tree_in2 (P := P) (t := T4 x d0 r0 n0 n1 n2 n3) (l := treeLed P (T4 x d0 r0 n0 n1 n2 n3) ++ []) In.app
  have m3 := tree_in3 (P := P) (t := T4 x d0 r0 n0 n1 n2 n3) (l := treeLed P (T4 x d0 r0 n0 n1 n2 n3) ++ []) In.app
  refine a_cons ?_
  refine m_own ?_
  tlg_ne
  refine met_t 7 (by decide) (by lcg_sub) (by lcg_sub) (by decide) ?_ mN7
  refine a_cons ?_
  tlg_ne
  refine a_cons ?_
  refine r_str ?_
  refine a_nil ?_
  refine CL.blk (T := treeLed P (T4 x d0 r0 n0 n1 n2 n3)) (by tb_start) (addComment_ok P (t := T4 x d0 r0 n0 n1 n2 n3) (par := some 1) (fun p e => by cases e; exact ⟨_, rfl, .inr rfl, by show 1 ≤ 50; decide⟩) (by show 4 ≤ 50; decide) (hr.le (by decide)) fun x4 d4 c4 a4 e4 => ⟨_, rfl, ?_⟩)
  rw [show ((T4 x d0 r0 n0 n1 n2 n3).rows.length : Int) = ((4 : Nat) : Int) from rfl]
  generalize hn4 : (x4, d4, c4, a4, e4) = n4
  have ht5 : (T4 x d0 r0 n0 n1 n2 n3).child (newNode x4 d4 c4 a4 e4 "comment" "" "" "" "c" (some 1)) = T5 x d0 r0 n0 n1 n2 n3 n4 := by rw [← hn4]
  rw [ht5]
  clear hn4 ht5 m1 m2 m3
  have W5 : Wf (T5 x d0 r0 n0 n1 n2 n3 n4) := wf5
  have P5 : Preceding (T5 x d0 r0 n0 n1 n2 n3 n4) 4 [3, 2] := pre5
  refine (fun nd4 hnd4 => ?_ : ∀ nd, (T5 x d0 r0 n0 n1 n2 n3 n4).rows[4]? = some nd → _) _ (rfl)
  have hx5 : (T5 x d0 r0 n0 n1 n2 n3 n4).x = x := rfl
  generalize T5 x d0 r0 n0 n1 n2 n3 n4 = t5 at W5 P5 hnd4 hx5 ⊢
  subst hx5
  have hT : In (treeLed P t5) (treeLed P t5 ++ []) := In.app
  generalize treeLed P t5 ++ [] = tl at hT ⊢
  refine a_nil ?_
  refine ⟨by simp, fun som => ?_⟩
  isplit
  refine t_cons ?_
  refine s_if ?_
  refine t_cmp ?_
  refine r_callf (by assumption) 9 (by decide) (by assumption) (by lcg_sub) ?_ fN9
  refine a_cons ?_
  tlg_ne
  refine a_cons ?_
  refine r_sub ?_
  tlg_ne
  refine r_int ?_
  refine i_list (by lcg_sub) (by decide) (by decide) rfl ?_
  refine a_nil ?_
  refine CD.cl (preceding_ok P (i := 4) (by lcg_src) W5.good hnd4 P5 W5.chainLen (by decide) (hr.le (by decide)) fun p1 => ?_)
  refine r_list ?_
  refine a_cons ?_
  refine r_sub ?_
  tlg_ne
  refine r_int ?_
  refine i_list (by lcg_sub) (by decide) (by decide) rfl ?_
  refine a_cons ?_
  tlg_ne
  refine a_nil ?_
  refine ⟨by simp, fun p2 => ?_⟩
  refine c_nel (ns := nl [3, 2]) (ms := nl [3, 2]) (by lcg_sub) (.head _) hr.cl ?_
  rw [decide_eq_true rfl]
  refine br_f rfl ?_
  refine s_nil ?_
  refine thn ?_
  refine TR.subperm (l2 := [(L, .frame (frW (.ref sc) (some (.ref t5.x)) (some (.int ((1 : Nat) : Int))) (some (.int ((2 : Nat) : Int))) (some (.ref som)) none none none none none none))]) ?_ (by first | (tb_rel) | exact Sb.pick (by l_intsC) Sb.nil | exact .drop (.drop (.drop (.pick (by l_intsC) Sb.nil))) | exact .drop (.drop (.drop (.drop (.pick (by l_intsC) Sb.nil)))))
  clear hT
  generalize (some (AV.ref t5.x)) = vt
  generalize (some (AV.int ((1 : Nat) : Int))) = vf
  generalize (some (AV.int ((2 : Nat) : Int))) = vi
  generalize (some (AV.ref som)) = vs
  refine s_cons ?_
  refine s_assign ?_
  refine r_callf (by assumption) 23 (by decide) (by assumption) (by lcg_sub) ?_ fN23
  refine a_cons ?_
  tlg_ne
  refine a_nil ?_
  refine CD.cl (pool_ok P hs hi hz (hr.le (by decide)) fun so a b hb0 hb => ?_)
  isplit
  refine t_cons ?_
  refine s_unp2 (Room.hh (by assumption)) ?_
  refine r_callf (by assumption) 26 (by decide) (by assumption) (by lcg_sub) ?_ fN26
  refine a_cons ?_
  tlg_ne
  refine a_cons ?_
  refine r_int ?_
  refine a_nil ?_
  refine CD.cl (grown_ok P hb0 hb (hr.le (by decide)) fun a1 b1 t qs inner j d ep tu hb01 hb1 G hj => ?_)
  refine ⟨_, _, _, rfl, .inl (by lcg_sub), ?_⟩
  refine ST.sub (.drop pullL) ?_
  have hT : In (treeLed P t) (treeLed P t ++ (qsLed qs ++ [])) := In.app
  isplit
  isplit
  refine t_cons ?_
  refine s_expr (by assumption) ?_
  refine r_callf (by assumption) 27 (by decide) (by assumption) (by lcg_sub) ?_ fN27
  refine a_cons ?_
  tlg_ne
  refine a_cons ?_
  tlg_ne
  refine a_cons ?_
  tlg_ne
  refine a_nil ?_
  refine CL.sb (l2 := (so, .list [.int a1, .int b1]) :: (d, .dictI (kvs qs) ep) :: (treeLed P t ++ (qsLed qs ++ [(L, .frame (frW (.ref sc) (some (.ref t.x)) vf vi vs (some (.ref so)) (some (.ref d)) none none none none))]))) (.ofPerm pullP.symm) (loosened_ok P hb01 hb1 G.wf G.rows (hr.le (by decide)) fun a2 b2 t' qs' hb02 hb2 hx hl W' R' => ?_).cl
  have hlen := G.len
  refine thn ?_
  refine TR.subperm ?_ pullL
  rw [← hx]
  exact law_A P FF hE hf hkd hA (hr.le (by decide)) hb02 hb2 W' R' (by omega) (by omega)
end
theorem left_law : LeftO pw viewQ looseN (fun _ => true) (fun s => obs (Kof s.heap)) (fun _ => seenAs) 2700 true :=
  LeftO.of_pieces (H₀ := boot_heap) (H₁ := heapE) (gs₀ := #[]) (gs₁ := #[]) (d₀ := boot_drawn) (d₁ := {}) (k₀ := boot_toks) (k₁ := 782) (m₀ := 11) (ann := some (.ref 6)) (M := 12 + (1 + (362 + (769 + (1023 + (407 + 2))))))
    (fun w => boot_open (p := pw) (N := 2700) rfl rfl (fun s => rfl) w) boot_facts top_all rfl (fun w => funext fun os => Prod.ext (see_statics w os) (Prod.ext (see_open w os) (see_obs w)))
noncomputable abbrev bndL (sc : Addr) : List (Str × Value) := [("script", .ref sc)]
theorem law_top {Z : Amb} {A : Around} (P : PX Z) (FF : FX Z P) {a sc : Addr} {items : Array Value} {ns : List Int} (hf : DefAt Z a "law" "law" (stAt 35)) (hA : A.frames = some []) (hr : Room A 19)
    (hs : Z.h₀.IsList sc items) (hi : IntsAre items.toList ns) (hz : items.size ≤ 1000) (h0 : Z.s₁.heap = Z.h₀) :
    wpAny Z.M A (call (.ref a) [.ref sc]) (fun v s' => v = .bool true ∧ ∃ l', Sat Z l' s') (fun _ _ => False) Z.s₁ := by
  obtain ⟨oc, od, osl, doc, pm, cdv, ct, h1, h2, h3⟩ := hf
  have X : Z.K.In Z.s₁.heap := h0 ▸ Z.X
  refine wpAny_call (codeAny_call_def (binds := bndL sc) hr.room (X _ _ h1) rfl (h0 ▸ Z.T.nolimit) (codeRec_of X h2) rfl (BindsTo.of_eq rfl) ?_ ?_ (fun h₁ hns hkp => ?_) rfl rfl rfl)
  · show ∀ x ∈ (fdS (stAt 35)).names, x.2 ≠ NameKind.cell
    decide
  · intro x hx
    obtain rfl := List.mem_singleton.mp hx
    show (fdS (stAt 35)).names.lookup ("script" : Str) = some NameKind.local
    decide
  have hS : Sat Z [(Z.s₁.heap.objs.size, .frame (frW (.ref sc) none none none none none none none none none none))] { Z.s₁ with heap := h₁, toks := Z.s₁.toks + (bndL sc).length } := by
    have e : frW (.ref sc) none none none none none none none none none none = (bndL sc).map (fun p => (p.1, some (er p.2))) ++ (["tree", "first", "inner", "some", "source", "rows", "node", "here", "name", "axes"] : List Str).map fun y => (y, none) := rfl
    rw [e]
    obtain ⟨ob, ho, hi⟩ := frame_is (prog := Z.prog) (w := Z.w) (zs := bndL sc) (others := ["tree", "first", "inner", "some", "source", "rows", "node", "here", "name", "axes"]) hns (show (["script", "tree", "first", "inner", "some", "source", "rows", "node", "here", "name", "axes"] : List Str).Nodup by decide)
    refine ⟨h₁, _, rfl, fun b o q => hkp b o (by rw [h0]; exact q), by simp, fun p hp => ?_, Z.s₁.heap.objs.size, ob, by rw [h0]; exact Nat.le_refl _, ho⟩
    obtain rfl := List.mem_singleton.mp hp
    exact ⟨by rw [h0]; exact Nat.le_refl _, ob, ho, hi⟩
  refine wpAny_mono (law_body P FF (envIs_call rfl rfl rfl (show ((fdS (stAt 35)).names.map (·.1)).Nodup by decide)) rfl rfl (Around.frames_deeper hA) hr.deeper hs hi hz _ (fun fl s' => (match fl with | .ret v => v | _ => .none) = .bool true ∧ ∃ l', Sat Z l' s') hS ?_) (fun fl s' x => x) (fun _ _ x => x.elim)
  intro fl s' l' hs' hq
  cases fl with
  | ret v =>
    have : er v = .bool true := AFlow.ret.inj (show AFlow.ret (er v) = .ret (.bool true) from hq)
    exact ⟨er_bool this, l', hs'⟩
  | next => cases hq
  | brk => cases hq
  | cont => cases hq
section
variable {K : Frag} (e : obs K = seenAs)
include e
theorem obs_f : ∀ i ∈ fIdx, K.lookup (faN i) = some (fnE (faN i) (stAt i) (nm (stAt i)) (pmN i)) ∧ (codeIn K (.ref (faN i - 1)) (nm (stAt i)) = true ∧ keepIn K (.ref (faN i)) = true) ∧ nsK K mainGlobals (nm (stAt i)) = some (some (Value.ref (faN i))) := by
  intro i hi
  have e1 := List.map_inj_left.mp (show (fIdx.map fun i => (K.lookup (faN i), codeIn K (.ref (faN i - 1)) (nm (stAt i)) && keepIn K (.ref (faN i)), nsK K mainGlobals (nm (stAt i)))) = fIdx.map fun i => (some (fnE (faN i) (stAt i) (nm (stAt i)) (pmN i)), true, some (some (Value.ref (faN i)))) from congrArg (·.1) e) i hi
  obtain ⟨a, b⟩ := Prod.mk.inj e1
  obtain ⟨b, c⟩ := Prod.mk.inj b
  exact ⟨a, Bool.and_eq_true_iff.mp b, c⟩
theorem obs_m : ∀ j ∈ mIdx, K.lookup (maN j) = some (fnE (maN j) (mSt j) (mQual j) pmT) ∧ (codeIn K (.ref (maN j - 1)) (mQual j) = true ∧ keepIn K (.ref (maN j)) = true) ∧ methOk K 342 (nm (mSt j)) (maN j) = true := by
  intro j hj
  have e1 := List.map_inj_left.mp (show (mIdx.map fun j => (K.lookup (maN j), codeIn K (.ref (maN j - 1)) (mQual j) && keepIn K (.ref (maN j)) && methOk K 342 (nm (mSt j)) (maN j))) = mIdx.map fun j => (some (fnE (maN j) (mSt j) (mQual j) pmT), true) from congrArg (·.2.1) e) j hj
  obtain ⟨a, b⟩ := Prod.mk.inj e1
  obtain ⟨b, c⟩ := Bool.and_eq_true_iff.mp b
  exact ⟨a, Bool.and_eq_true_iff.mp b, c⟩
theorem obs_i : K.lookup 171 = some (fnE 171 (mSt 0) "Tree.__init__" pmT) ∧ K.lookup 150 = some (fnE 150 (inCls (stAt 20) 0) "NodeRow.__init__" pmT) ∧ K.lookup 103 = some (fnE 103 (inCls (stAt 13) 0) "MarkupError.__init__" (.str "markupmill.errors" 292)) := by
  have e1 : (_, _, _) = (_, _, _) := congrArg (·.2.2.1) e
  obtain ⟨a, b⟩ := Prod.mk.inj e1
  obtain ⟨b, c⟩ := Prod.mk.inj b
  exact ⟨a, b, c⟩
theorem obs_b : (codeIn K (.ref 170) "Tree.__init__" && keepIn K (.ref 171) && codeIn K (.ref 149) "NodeRow.__init__" && keepIn K (.ref 150) && codeIn K (.ref 102) "MarkupError.__init__" && keepIn K (.ref 103) &&
     makesIn K 342 && makesIn K 153 && isFn K (.ref 171) && isFn K (.ref 150) && isFn K (.ref 103) && keepIn K (.ref 342) && keepIn K (.ref 153) && keepIn K (.ref 119) && attrOk K 342 "rows" && storeOk' K 342 "rows" && (rowN.all fun x => attrOk K 153 x && storeOk' K 153 x)) = true := congrArg (·.2.2.2.1) e
theorem obs_l : findIn K (.ref 342) "__init__" = some (some (Value.ref 171)) ∧ findIn K (.ref 153) "__init__" = some (some (Value.ref 150)) ∧ findIn K (.ref 119) "__init__" = some (some (Value.ref 103)) ∧ findIn K (.ref 119) "__setattr__" = some (some (Value.builtin "object.__setattr__")) ∧ findIn K (.ref 119) "message" = some none := by
  have e1 : (_, _, _, _, _) = (_, _, _, _, _) := congrArg (·.2.2.2.2.1) e
  obtain ⟨a, b⟩ := Prod.mk.inj e1
  obtain ⟨b, c⟩ := Prod.mk.inj b
  obtain ⟨c, d⟩ := Prod.mk.inj c
  obtain ⟨d, f⟩ := Prod.mk.inj d
  exact ⟨a, b, c, d, f⟩
theorem obs_g : nsK K mainGlobals "Tree" = some (some (Value.ref 342)) ∧ nsK K mainGlobals "NodeRow" = some (some (Value.ref 153)) ∧ nsK K mainGlobals "PARENTS" = some (some (Value.ref 136)) ∧ nsK K mainGlobals "TreeFault" = some (some (Value.ref 119)) ∧ ∀ x ∈ bltN, nsK K mainGlobals x = some none := by
  have e1 : (_, _, _, _, bltN.map fun x => nsK K mainGlobals x) = (_, _, _, _, bltN.map fun _ => some none) := congrArg (·.2.2.2.2.2.1) e
  obtain ⟨a, b⟩ := Prod.mk.inj e1
  obtain ⟨b, c⟩ := Prod.mk.inj b
  obtain ⟨c, d⟩ := Prod.mk.inj c
  obtain ⟨d, f⟩ := Prod.mk.inj d
  exact ⟨a, b, c, d, List.map_inj_left.mp f⟩
theorem obs_c : K.lookup 119 = some (faultObj "TreeFault" "TreeFault" 119 118 106 [.ref 106] true [] [] false none none (some (.ref 110)) none (some (.str "TreeFault" 323)) (some (.str "TreeFault" 331)) (some (.bool true))) ∧ K.lookup 136 = some (⟨.type "tuple", none, .seq #[.str "root" 361, .str "element" 362] 0, #[]⟩ : Obj) :=
  Prod.mk.inj (show (_, _) = (_, _) from congrArg (·.2.2.2.2.2.2) e)
end
theorem def_of {Z : Amb} {a : Addr} {st : Stmt} {qual : Str} {pm : Value} (h : Z.K.lookup a = some (fnE a st qual pm)) (h2 : codeIn Z.K (.ref (a - 1)) qual = true) (h3 : keepIn Z.K (.ref a) = true) {name : Str} (hn : nm st = name) : DefAt Z a name qual st := by
  subst hn
  exact ⟨_, _, _, _, _, _, _, h, h2, h3⟩
theorem px_of {Z : Amb} (e : obs Z.K = seenAs) : ∃ P : PX Z, FX Z P ∧ DefAt Z 427 "law" "law" (stAt 35) ∧ Z.mg "law" = some (.ref 427) := by
  have g : ∀ x v, nsK Z.K mainGlobals x = some v → Z.mg x = v := fun x v h => nsK_of Z.X Z.T.g h
  have hf := obs_f e
  have hm := obs_m e
  obtain ⟨i1, i2, i3⟩ := obs_i e
  have hb := obs_b e
  simp only [Bool.and_eq_true, List.all_eq_true] at hb
  obtain ⟨⟨⟨⟨⟨⟨⟨⟨⟨⟨⟨⟨⟨⟨⟨⟨b1, b2⟩, b3⟩, b4⟩, b5⟩, b6⟩, b7⟩, b8⟩, b9⟩, b10⟩, b11⟩, b12⟩, b13⟩, b14⟩, b15⟩, b16⟩, b17⟩ := hb
  obtain ⟨l1, l2, l3, l4, l5⟩ := obs_l e
  obtain ⟨g1, g2, g3, g4, g5⟩ := obs_g e
  obtain ⟨c1, c2⟩ := obs_c e
  have sub : ∀ i ∈ [2,3,4,5,6,7,8,9,10,11,16,17,23,24,25,26,27,28,29,30,31,32,33,34], i ∈ fIdx := by decide
  refine ⟨{ fa := faN, ma := maN, cT := 342, cN := 153, fN := 150, cF := 119, cM := 106, fM := 103, aP := 136, fT := 171
            fdef := fun i hi => let ⟨a, b, c⟩ := hf i (sub i hi); ⟨def_of a b.1 b.2 rfl, g _ _ c⟩
            dT := def_of i1 b1 b2 rfl, dN := def_of i2 b3 b4 rfl, dM := def_of i3 b5 b6 rfl
            mkT := ⟨b7, l1, b9, g _ _ g1, b12⟩, mkN := ⟨b8, l2, b10, g _ _ g2, b13⟩, gP := g _ _ g3, kP := ⟨_, _, _, _, c2, rfl⟩
            aT := b15, aN := b17, sT := b16, blt := fun x hx => g _ _ (g5 x ((show ∀ x ∈ (["list", "len", "str", "range", "sorted"] : List Str), x ∈ bltN by decide) x hx))
            mdef := fun j hj => let ⟨a, b, c⟩ := hm j hj; ⟨def_of a b.1 b.2 rfl, c⟩ }, ⟨⟨_, _, _, _, _, _, _, _, _, _, _, _, _, _, c1⟩, ⟨l3, b11⟩, l4, l5, ⟨g _ _ g4, b14⟩, g _ _ (g5 "Exception" (by decide))⟩, ?_, ?_⟩
  · obtain ⟨a, b, c⟩ := hf 35 (by decide)
    exact def_of a b.1 b.2 rfl
  · obtain ⟨a, b, c⟩ := hf 35 (by decide)
    exact g _ _ c
theorem room_caller : Room callerA 19 := ⟨rfl, by decide +kernel, by decide +kernel⟩
end Mine
set_option maxHeartbeats 8000000 in
theorem PySem.Challenge.cw_xm0670_01_holds : PySem.Challenge.rw_xm0670_01.Holds := by
  refine holds_law Mine.ws fun said => ?_
  refine holds_open (q := Mine.viewQ) (loose := Mine.looseN) (Xt := fun _ => true) (XP := fun _ _ => True) (Yf := fun s => Mine.obs (Mine.Kof s.heap)) (Ya := fun _ => Mine.seenAs) (YP := fun _ h => ∃ K : Frag, K.In h ∧ Mine.obs K = Mine.seenAs) (N := 2700) Mine.left_law (fun w s e => ⟨Mine.Kof s.heap, Mine.Kof_in _, e⟩) (fun w h h' ⟨K, X, e⟩ k => ⟨K, X.keeps k, e⟩) (fun _ _ => trivial) (fun _ _ _ _ _ => trivial) (by rfl) (by rfl) (by rfl) (fun s _ => recFacts_nil rfl) (by rfl) said (by decide +kernel) ⟨rfl, rfl, rfl, rfl, rfl, by decide +kernel⟩ ?hw ?hc
  case hw => w_witness2
  intro w s₀ s₁ mg mb G Y fa o pm cd doc dV kV ho hd hcd hD hmg hg args vals as hpre hlay hrd hwl hlo
  wrow_args hpre hlay hrd hwl hlo
  rename_i ns _ _ _ _ _ _ _ sc vs _ hL _ _ _ hI _ hlen _
  obtain ⟨K, X, e⟩ := Y
  obtain ⟨P, FF, hlaw, hml⟩ := Mine.px_of (Z := { prog := _, w := w, K := K, h₀ := s₁.heap, s₁ := s₁, p := _, loose := _, mean := _, mg := mg, mb := mb, X := X, T := G.T }) e
  have hfa : fa = 427 := by
    have h1 : some (Value.ref fa) = some (Value.ref 427) := hmg.symm.trans hml
    cases h1; rfl
  subst hfa
  have hvl := hI.length
  refine wpAny_mono (Mine.law_top P FF (A := callerA) (sc := sc) (items := vs.toArray) (ns := ns) hlaw rfl Mine.room_caller hL (by simpa using hI) (by simp; omega) rfl) (fun v s' h => ?_) (fun _ _ x => x.elim)
  obtain ⟨rfl, l', hs⟩ := h
  refine GoodW.toG ⟨.inl ⟨.bool true, .bool true, [], rfl, fun _ => rfl, .bool true, ?_, fun _ => ⟨List.nodup_nil, fun a h => (nomatch h)⟩⟩, hs.keep, ?_, ?_⟩
  · kernel_rfl
  · rw [hs.eq]
  · rw [hs.eq]; exact hg
