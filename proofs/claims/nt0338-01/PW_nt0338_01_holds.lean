import PyProof.Rows.All
import Wide.All
import OpenK.AllK
import Wide.FinOn
import PySem.Challenge.RW_nt0338_01
open PySem PySem.W PyProof.Rows
set_option Elab.async false
set_option maxRecDepth 100000
set_option maxHeartbeats 8000000
namespace Mine
open_top hd for PySem.Challenge.rw_nt0338_01
end Mine

open PySem.Calls

namespace Mine

/-! ## heaps -/
def hideO (h : Heap) : Option Addr → Heap
  | none => h
  | some a => h.hide a
theorem hideO_stays (h : Heap) (q : Option Addr) : (hideO h q).StaysIn h := by
  cases q with
  | none => exact fun _ _ e => e
  | some a => exact fun _ _ e => Heap.of_hide e
theorem hideO_get {h : Heap} {q : Option Addr} {b : Addr} {o : Obj} (e : h.get? b = some o) (hn : q ≠ some b) : (hideO h q).get? b = some o := by
  cases q with
  | none => exact e
  | some a => exact (Heap.hide_ne h fun (z : b = a) => hn (by rw [z])).trans e
theorem hideO_self (h : Heap) {q : Option Addr} {a : Addr} (e : q = some a) : (hideO h q).get? a = none := by
  subst e; exact Heap.hide_self h a
theorem stays_hideO {S h : Heap} {q : Option Addr} (k : S.StaysIn h) (hq : ∀ a, q = some a → S.get? a = none) : S.StaysIn (hideO h q) :=
  fun b o e => hideO_get (k b o e) fun z => by rw [hq b z] at e; cases e
theorem stays_trans {a b c : Heap} (x : a.StaysIn b) (y : b.StaysIn c) : a.StaysIn c := fun p o e => y p o (x p o e)
theorem stays_refl (h : Heap) : h.StaysIn h := fun _ _ e => e
theorem stays_push {S h : Heap} (k : S.StaysIn h) (o : Obj) : S.StaysIn (h.push o) := fun b x e => Heap.get?_push_of_some _ (k b x e)

/-! ## a frame: its known names, what is kept -/
def Lo (h : Heap) (L : Addr) (l : List (Str × Value)) : Prop := ∃ m, h.Ns L m ∧ ∀ p ∈ l, m p.1 = some p.2
structure FL (S : Heap) (L : Addr) (h : Heap) (l : List (Str × Value)) : Prop where
  lo : Lo h L l
  keep : S.StaysIn h
  off : S.get? L = none

theorem Lo.lt {h : Heap} {L : Addr} {l} (x : Lo h L l) : L < h.objs.size := let ⟨_, n, _⟩ := x; n.lt
theorem Lo.keeps {h h' : Heap} {L : Addr} {l} (x : Lo h L l) (hk : ∀ o, h.get? L = some o → h'.get? L = some o) : Lo h' L l := by
  obtain ⟨m, ⟨o, es, ep, e, r⟩, hm⟩ := x
  exact ⟨m, ⟨o, es, ep, hk _ e, r⟩, hm⟩
theorem Lo.push {h : Heap} {L : Addr} {l} (x : Lo h L l) (o : Obj) : Lo (h.push o) L l := x.keeps fun _ e => Heap.get?_push_of_some _ e
theorem Lo.sub {h : Heap} {L : Addr} {l l'} (x : Lo h L l) (hs : ∀ p ∈ l', p ∈ l) : Lo h L l' := let ⟨m, n, hm⟩ := x; ⟨m, n, fun p hp => hm p (hs p hp)⟩
theorem FL.push {S h : Heap} {L : Addr} {l} (F : FL S L h l) (o : Obj) : FL S L (h.push o) l := ⟨F.lo.push o, stays_push F.keep o, F.off⟩
theorem FL.sub {S h : Heap} {L : Addr} {l l'} (F : FL S L h l) (hs : ∀ p ∈ l', p ∈ l) : FL S L h l' := ⟨F.lo.sub hs, F.keep, F.off⟩
/-- any change that keeps the frame's dict and what is known -/
theorem FL.to {S h h' : Heap} {L : Addr} {l} (F : FL S L h l) (hk : ∀ b o, (b = L ∨ (S.get? b).isSome) → h.get? b = some o → h'.get? b = some o) : FL S L h' l :=
  ⟨F.lo.keeps fun o e => hk L o (.inl rfl) e, fun b o e => hk b o (.inr (by rw [e]; rfl)) (F.keep b o e), F.off⟩
theorem FL.grow {S h h' : Heap} {L : Addr} {l} (F : FL S L h l) (hk : h.StaysIn h') : FL S L h' l := F.to fun b o _ e => hk b o e
/-- a change of one address that is neither the frame nor known -/
theorem FL.but {S h h' : Heap} {L a : Addr} {l} (F : FL S L h l) (hs : Heap.SameBut a h h') (h1 : a ≠ L) (h2 : S.get? a = none) : FL S L h' l :=
  F.to fun b o hb e => (hs.2 b (fun z => by subst z; rcases hb with rfl | hb; exact h1 rfl; rw [h2] at hb; cases hb)).trans e

/-- a call that may turn q alone -/
theorem FL.past {S h h' : Heap} {L : Addr} {l} {q : Option Addr} (F : FL S L h l) (k : (hideO h q).StaysIn h') (hL : q ≠ some L) (hS : ∀ a, q = some a → S.get? a = none) : FL S L h' l :=
  F.to fun b o hb e => k b o (hideO_get e fun z => by
    rcases hb with rfl | hb
    · exact hL z
    · rw [hS b z] at hb; cases hb)

section
variable {M : Model} {A : Around} {E : Value → Shared → Prop} {s : Shared} {env : Env} {S : Heap} {l : List (Str × Value)} {x : Str} {pos : Pos} {v : Value}
theorem ldL {L : Addr} {Q : Value → Shared → Prop} (F : FL S L s.heap l) (h : Q v s) (hv : (x, v) ∈ l := by k_mem)
    (hL : env.locals = L := by rfl) (hk : env.scope.kind = .function := by rfl) (hx : env.kindOf x = some .local := by rfl) : wpAny M A (loadName env x) Q E s := by
  obtain ⟨m, n, hm⟩ := F.lo
  exact wpAny_loadName_local hk hx (hL ▸ n) (hm _ hv) h
theorem nmL {L : Addr} {Q : Value → Shared → Prop} (F : FL S L s.heap l) (h : Q v s) (hv : (x, v) ∈ l := by k_mem)
    (hL : env.locals = L := by rfl) (hk : env.scope.kind = .function := by rfl) (hx : env.kindOf x = some .local := by rfl) (hd : (x == ("__debug__" : Str)) = false := by decide) :
    wpAny M A (eval (.Name x pos) env) Q E s := wpAny_Name (ldL F h hv hL hk hx) hd
/-- a store: the names of the new list are the stored one and old ones apart from it -/
theorem stL {L : Addr} {l' : List (Str × Value)} {Q : Unit → Shared → Prop} (F : FL S L s.heap l)
    (h : ∀ h', FL S L h' l' → Heap.SameBut L s.heap h' → Q () { s with heap := h', toks := s.toks + 1 })
    (hl : ∀ p ∈ l', p = (x, v) ∨ (p.1 ≠ x ∧ p ∈ l) := by tb_start)
    (hL : env.locals = L := by rfl) (hk : env.scope.kind = .function := by rfl) (hx : env.kindOf x = some .local := by rfl) : wpAny M A (storeName env x v) Q E s := by
  subst hL
  obtain ⟨m, n, hm⟩ := F.lo
  refine wpAny_storeName_local hx n (fun h' hn hs => h h' ⟨⟨_, hn, fun p hp => ?_⟩, fun b o e => ?_, F.off⟩ hs) (by rw [hk]; rfl)
  · rcases hl p hp with rfl | ⟨h1, h2⟩
    · simp
    · simp only [if_neg h1]; exact hm p h2
  · refine (hs.2 b fun z => ?_).trans (F.keep b o e)
    rw [z, F.off] at e; cases e
end

/-! ## the top -/
noncomputable abbrev KK (w : World) : Frag := hd.heap_39 w.params
structure GD (p : Program) (loose : List Str) (mean : ExcName → Option Value) (mg mb : Str → Option Value) (w : World) (h : Heap) : Prop where
  X : (KK w).In h
  T : Top p loose mean mg mb h
theorem GD.keeps {p : Program} {loose : List Str} {mean : ExcName → Option Value} {mg mb : Str → Option Value} {w : World} {h h' : Heap} (G : GD p loose mean mg mb w h) (k : h.StaysIn h') : GD p loose mean mg mb w h' :=
  ⟨G.X.keeps k, G.T.keeps k⟩

section
variable {M : Model} {A : Around} {E : Value → Shared → Prop} {s : Shared} {env : Env} {S : Heap} {l : List (Str × Value)} {x : Str} {pos : Pos} {v : Value}
  {p : Program} {loose : List Str} {mean : ExcName → Option Value} {mg mb : Str → Option Value} {w : World}
theorem nmG {Q : Value → Shared → Prop} (G : GD p loose mean mg mb w s.heap) (e : nsIn (KK w) mainGlobals x = some (some v)) (h : Q v s)
    (hg : env.globals = mainGlobals := by rfl) (hk : env.scope.kind = .function := by rfl) (hx : env.kindOf x = some .globalImplicit := by rfl) (hd : (x == ("__debug__" : Str)) = false := by decide) :
    wpAny M A (eval (.Name x pos) env) Q E s := Name_function_global hk hx (loadGlobal_global (mg := mg) (hg ▸ G.T.g) (mg_of G.X G.T.g e) h) hd
theorem nmB {Q : Value → Shared → Prop} (G : GD p loose mean mg mb w s.heap) (e : nsIn (KK w) mainGlobals x = some none) (hv : bootBuiltins x = some v) (h : Q v s)
    (hn : x ≠ "__name__" := by decide) (hg : env.globals = mainGlobals := by rfl) (hb : env.builtins = builtinsNs := by rfl) (hk : env.scope.kind = .function := by rfl) (hx : env.kindOf x = some .globalImplicit := by rfl) (hd : (x == ("__debug__" : Str)) = false := by decide) :
    wpAny M A (eval (.Name x pos) env) Q E s :=
  Name_function_global hk hx (loadGlobal_builtin (mg := mg) (mb := mb) (hg ▸ G.T.g) (mg_none_of G.X G.T.g e) (hb ▸ G.T.b) ((G.T.builtins x hn).trans hv) h) hd
end

/-! ## calls of defs -/
structure Room (A : Around) (n : Nat) : Prop where
  hh : A.handled = none
  dep : A.depth + n < recursionLimit
  un : A.units + 8 * n < cLine
theorem Room.deeper {A : Around} {n : Nat} (R : Room A (n + 1)) (env : Env) : Room (A.deeper env) n :=
  ⟨R.hh, by have := R.dep; show A.depth + 1 + n < recursionLimit; omega, by have := R.un; show A.units + 3 + 8 * n < cLine; omega⟩
theorem Room.le {A : Around} {n m : Nat} (R : Room A n) (h : m ≤ n) : Room A m := ⟨R.hh, by have := R.dep; omega, by have := R.un; omega⟩

section
variable {prog : Program} {w : World} {A : Around} {E : Value → Shared → Prop} {s : Shared}
theorem callDef {f : Addr} {o : Obj} {fd : FuncData} {body : List Stmt} {args : List Value} {binds : List (Str × Value)} {Q : Value → Shared → Prop} {n : Nat}
    (R : Room A (n + 1)) (ho : s.heap.get? f = some o) (hd : o.data = .func fd) (hlim : s.heap.NoLimit) (hcd : s.heap.CodeRec fd.code fd.qualname)
    (hbody : fd.body = .stmts body) (hbind : bindArgs fd ⟨args, []⟩ = pure binds) (hcell : ∀ x ∈ fd.scope.names, x.2 ≠ .cell) (hloc : ∀ x ∈ binds, fd.scope.names.lookup x.1 = some .local)
    (hnd : (binds.map (·.1)).Nodup)
    (h : ∀ h₁ A' E', Room A' n → FL s.heap s.heap.objs.size h₁ binds →
      wpAny (model prog w) A' (execs body (callEnv fd s.heap.objs.size f)) (fun fl s' => Q (match fl with | .ret v => v | _ => .none) s') E' { s with heap := h₁, toks := s.toks + binds.length })
    (hco : fd.scope.isCoroutine = false := by rfl) (hgen : fd.scope.isGenerator = false := by rfl) (hk : fd.scope.kind = .function := by rfl) :
    wpAny (model prog w) A (call (.ref f) args) Q E s := by
  refine wpAny_call (codeAny_call_def (by have := R.dep; omega) ho hd hlim hcd hbody (BindsTo.of_eq hbind) hcell hloc (fun h₀ hns hk₀ => ?_) hco hgen hk)
  refine wpAny_mono (h h₀ _ _ (R.deeper _) ⟨⟨_, hns, fun p hp => ?_⟩, hk₀, Heap.get?_none_of_le (Nat.le_refl _)⟩) (fun fl s' hq => hq) fun e s' he => he
  clear h hloc hbind
  have hp' : p ∈ binds.reverse := List.mem_reverse.mpr hp
  have hnd' : (binds.reverse.map (·.1)).Nodup := by rw [List.map_reverse]; exact (List.reverse_perm _).symm.nodup hnd
  generalize binds.reverse = r at hp' hnd'
  induction r with
  | nil => cases hp'
  | cons q r ih =>
    rw [List.lookup_cons]
    rcases List.mem_cons.mp hp' with rfl | hp'
    · simp
    · have hne : (p.1 == q.1) = false := by
        rw [List.map_cons, List.nodup_cons] at hnd'
        exact beq_eq_false_iff_ne.mpr fun z => hnd'.1 (z ▸ List.mem_map_of_mem hp')
      rw [hne]
      exact ih hp' (List.nodup_cons.mp hnd').2
end
end Mine

namespace Mine
abbrev lstO (xs : List Value) : Obj := { cls := .type "list", data := .seq xs.toArray }
abbrev tupO (xs : List Value) : Obj := { cls := .type "tuple", data := .seq xs.toArray }

theorem PlainList.new (h : Heap) (xs : List Value) : (h.push (lstO xs)).PlainList h.objs.size xs.toArray := ⟨0, Heap.get?_push_size _ rfl⟩
theorem plain_keeps {h h' : Heap} {a : Addr} {its : Array Value} (x : h.PlainList a its) (k : ∀ o, h.get? a = some o → h'.get? a = some o) : h'.PlainList a its := x.at k
theorem isList_keeps {h h' : Heap} {a : Addr} {its : Array Value} (x : h.IsList a its) (k : ∀ o, h.get? a = some o → h'.get? a = some o) : h'.IsList a its := let ⟨o, e, r⟩ := x; ⟨o, k o e, r⟩
theorem isList_stays {h h' : Heap} {a : Addr} {its : Array Value} (x : h.IsList a its) (k : h.StaysIn h') : h'.IsList a its := isList_keeps x fun o e => k a o e
theorem isList_lt {h : Heap} {a : Addr} {its : Array Value} (x : h.IsList a its) : a < h.objs.size := let ⟨_, e, _⟩ := x; Heap.lt_size e
theorem plain_lt {h : Heap} {a : Addr} {its : Array Value} (x : h.PlainList a its) : a < h.objs.size := isList_lt x.isList
theorem ltS {h : Heap} {a : Nat} {o : Obj} (e : h.get? a = some o) : a < h.objs.size := Heap.lt_size e
theorem neA {a b : Nat} (h : a ≠ b) : @Ne Addr a b := h
theorem fresh_none (h : Heap) : h.get? h.objs.size = none := Heap.get?_none_of_le (Nat.le_refl _)

/-- h' comes of h by growth and perhaps a turn of q; c is a new list in it -/
structure Gro (q : Option Addr) (h h' : Heap) : Prop where
  stays : (hideO h q).StaysIn h'
  size : h.objs.size ≤ h'.objs.size
structure NewL (q : Option Addr) (h h' : Heap) (c : Addr) (xs : List Value) : Prop extends Gro q h h' where
  ge : h.objs.size ≤ c
  lst : h'.PlainList c xs.toArray
theorem Gro.refl (q : Option Addr) (h : Heap) : Gro q h h := ⟨hideO_stays h q, Nat.le_refl _⟩
theorem Gro.trans {q : Option Addr} {a b c : Heap} (x : Gro q a b) (y : Gro q b c) : Gro q a c :=
  ⟨fun p o e => y.stays p o (hideO_get (x.stays p o e) fun z => by rw [hideO_self a z] at e; cases e), Nat.le_trans x.size y.size⟩
theorem Gro.of_none {q : Option Addr} {a b : Heap} (x : Gro none a b) : Gro q a b := ⟨fun p o e => x.stays p o (hideO_stays a q p o e), x.size⟩
theorem Gro.of_stays {q : Option Addr} {a b : Heap} (x : a.StaysIn b) (h : a.objs.size ≤ b.objs.size) : Gro q a b := ⟨stays_trans (hideO_stays a q) x, h⟩
theorem Gro.stays₀ {a b : Heap} (x : Gro none a b) : a.StaysIn b := x.stays
theorem Gro.push {q : Option Addr} {a b : Heap} (x : Gro q a b) (o : Obj) : Gro q a (b.push o) := ⟨stays_push x.stays o, Nat.le_trans x.size (by rw [Heap.size_push]; omega)⟩
theorem Gro.but {q : Option Addr} {a b c : Heap} {x : Addr} (g : Gro q a b) (s : Heap.SameBut x b c) (hx : a.get? x = none ∨ q = some x) : Gro q a c :=
  ⟨fun p o e => (s.2 p fun z => by
      subst z
      rcases hx with hx | hx
      · have := hideO_stays a q _ _ e; rw [hx] at this; cases this
      · rw [hideO_self a hx] at e; cases e).trans (g.stays p o e), by rw [s.1]; exact g.size⟩
theorem NewL.fresh {q : Option Addr} {h h' : Heap} {c : Addr} {xs : List Value} (x : NewL q h h' c xs) : h.get? c = none := Heap.get?_none_of_le x.ge
theorem NewL.pushed (h : Heap) (xs : List Value) : NewL none h (h.push (lstO xs)) h.objs.size xs :=
  ⟨⟨stays_push (stays_refl h) _, by rw [Heap.size_push]; omega⟩, Nat.le_refl _, PlainList.new h xs⟩
theorem NewL.list {q : Option Addr} {h h' : Heap} {c : Addr} {xs : List Value} (x : NewL q h h' c xs) : h'.IsList c xs.toArray := x.lst.isList
theorem FL.gro {S h h' : Heap} {L : Addr} {l} {q : Option Addr} (F : FL S L h l) (k : Gro q h h') (hL : q ≠ some L) (hS : ∀ a, q = some a → S.get? a = none) : FL S L h' l := F.past k.stays hL hS
theorem FL.gro₀ {S h h' : Heap} {L : Addr} {l} (F : FL S L h l) (k : Gro none h h') : FL S L h' l := F.grow k.stays
theorem PlainList.gro {h h' : Heap} {c : Addr} {its : Array Value} {q : Option Addr} (P : h.PlainList c its) (k : Gro q h h') (hq : q ≠ some c) : h'.PlainList c its := plain_keeps P fun o e => k.stays _ o (hideO_get e hq)
theorem PlainList.but {h h' : Heap} {c x : Addr} {its : Array Value} (P : h.PlainList c its) (s : Heap.SameBut x h h') (hx : c ≠ x) : h'.PlainList c its := plain_keeps P fun o e => (s.2 _ hx).trans e

section
variable {prog : Program} {w : World} {A : Around} {E : Value → Shared → Prop} {s : Shared} {env : Env}
theorem addL {l b : Addr} {xs ys : List Value} {Q : Value → Shared → Prop} (hl : s.heap.IsList l xs.toArray) (hb : s.heap.IsList b ys.toArray) (hsz : xs.length + ys.length ≤ sizeLine)
    (h : ∀ h' c, NewL none s.heap h' c (xs ++ ys) → Q (.ref c) { s with heap := h' }) : wpAny (model prog w) A (binaryOp .Add (.ref l) (.ref b)) Q E s := by
  obtain ⟨⟨cls, dd, data, sl⟩, ho, hc, n, hd⟩ := id hl
  obtain ⟨⟨cls2, dd2, data2, sl2⟩, ho2, hc2, n2, hd2⟩ := id hb
  simp only at hc hd hc2 hd2
  subst hc hd hc2 hd2
  have e : xs.toArray ++ ys.toArray = (xs ++ ys).toArray := by simp
  refine concat_meets ⟨_, ho, rfl⟩ ⟨_, ho2, rfl⟩ noFill_list_add seq_list_add PySem.F.slot_list_add PySem.F.entry_list_add (PySem.F.args_list_add_2 _ _) (list_addW l b xs.toArray ys.toArray n n2 dd dd2 sl sl2 (by simpa using hsz)) ⟨ho, ho2, ?_⟩
  rw [e]; exact h _ _ (NewL.pushed s.heap (xs ++ ys))
/-- len of a list -/
theorem lenL {l : Addr} {xs : List Value} {Q : Value → Shared → Prop} (hl : s.heap.IsList l xs.toArray) (hfit : (xs.length : Int) < 2 ^ 63)
    (h : ∀ t tk, Q (.int xs.length t) { s with toks := tk }) : wpAny (model prog w) A (call (.builtin "len") [.ref l]) Q E s :=
  call_len_list hl (by simpa using hfit) (by simpa using h _ _)
/-- a builtin called by its name with arguments -/
theorem callB {x : Str} {id : String} {pos pos' : Pos} {e : Expr} {rest : List Expr} {Q : Value → Shared → Prop}
    {p : Program} {loose : List Str} {mean : ExcName → Option Value} {mg mb : Str → Option Value}
    (G : GD p loose mean mg mb w s.heap) (hm : nsIn (KK w) mainGlobals x = some none) (hv : bootBuiltins x = some (.builtin id))
    (h : wpAny (model prog w) A (spliced (backTo pos (starEach (e :: rest) env))) (fun vs s₁ => wpAny (model prog w) A (call (.builtin id) vs) Q E s₁) E s)
    (hn : x ≠ "__name__" := by decide) (hg : env.globals = mainGlobals := by rfl) (hb : env.builtins = builtinsNs := by rfl) (hk : env.scope.kind = .function := by rfl) (hx : env.kindOf x = some .globalImplicit := by rfl) (hd : (x == ("__debug__" : Str)) = false := by decide)
    (he : eval (.Call (.Name x pos') (e :: rest) [] pos) env = (do callWith pos (← eval (.Name x pos') env) [] (backTo pos (starEach (e :: rest) env)) (backToKw pos (keywordEach [] env))) := by rfl)
    (he' : starEach (e :: rest) env = (false, eval e env) :: starEach rest env := by rfl)
    (hplain : (backTo pos (starEach rest env)).any (·.1) = false := by rfl) :
    wpAny (model prog w) A (eval (.Call (.Name x pos') (e :: rest) [] pos) env) Q E s :=
  Call_ (nmB G hm hv (callWith_builtin1 h he' hplain) hn hg hb hk hx hd) he
/-- a built-in type called by its name with arguments -/
theorem callTy {x : Str} {T : String} {pos pos' : Pos} {e : Expr} {rest : List Expr} {Q : Value → Shared → Prop}
    {p : Program} {loose : List Str} {mean : ExcName → Option Value} {mg mb : Str → Option Value}
    (G : GD p loose mean mg mb w s.heap) (hm : nsIn (KK w) mainGlobals x = some none) (hv : bootBuiltins x = some (.type T))
    (h : wpAny (model prog w) A (spliced (backTo pos (starEach (e :: rest) env))) (fun vs s₁ => wpAny (model prog w) A (call (.type T) vs) Q E s₁) E s)
    (hn : x ≠ "__name__" := by decide) (hg : env.globals = mainGlobals := by rfl) (hb : env.builtins = builtinsNs := by rfl) (hk : env.scope.kind = .function := by rfl) (hx : env.kindOf x = some .globalImplicit := by rfl) (hd : (x == ("__debug__" : Str)) = false := by decide)
    (he : eval (.Call (.Name x pos') (e :: rest) [] pos) env = (do callWith pos (← eval (.Name x pos') env) [] (backTo pos (starEach (e :: rest) env)) (backToKw pos (keywordEach [] env))) := by rfl)
    (he' : starEach (e :: rest) env = (false, eval e env) :: starEach rest env := by rfl)
    (hplain : (backTo pos (starEach rest env)).any (·.1) = false := by rfl) :
    wpAny (model prog w) A (eval (.Call (.Name x pos') (e :: rest) [] pos) env) Q E s :=
  Call_ (nmB G hm hv (callWith_type1 h he' hplain) hn hg hb hk hx hd) he
/-- a def of the text called by its name with arguments -/
theorem callG {x : Str} {f : Addr} {o : Obj} {fd : FuncData} {pos pos' : Pos} {e : Expr} {rest : List Expr} {Q : Value → Shared → Prop}
    {p : Program} {loose : List Str} {mean : ExcName → Option Value} {mg mb : Str → Option Value}
    (G : GD p loose mean mg mb w s.heap) (hm : nsIn (KK w) mainGlobals x = some (some (.ref f))) (ho : (KK w).lookup f = some o) (hf : o.data = .func fd)
    (h : wpAny (model prog w) A (spliced (backTo pos (starEach (e :: rest) env))) (fun vs s₁ => GD p loose mean mg mb w s₁.heap ∧ wpAny (model prog w) A (call (.ref f) vs) Q E s₁) E s)
    (hg : env.globals = mainGlobals := by rfl) (hk : env.scope.kind = .function := by rfl) (hx : env.kindOf x = some .globalImplicit := by rfl) (hd : (x == ("__debug__" : Str)) = false := by decide)
    (he : eval (.Call (.Name x pos') (e :: rest) [] pos) env = (do callWith pos (← eval (.Name x pos') env) [] (backTo pos (starEach (e :: rest) env)) (backToKw pos (keywordEach [] env))) := by rfl)
    (he' : starEach (e :: rest) env = (false, eval e env) :: starEach rest env := by rfl) :
    wpAny (model prog w) A (eval (.Call (.Name x pos') (e :: rest) [] pos) env) Q E s :=
  Call_ (nmG G hm (callWith_def hf (wpAny_mono h (fun vs s₁ h₁ => ⟨h₁.1.X _ _ ho, h₁.2⟩) fun _ _ x => x) he') hg hk hx hd) he
/-- x.append(e) as a statement -/
theorem appendS {S : Heap} {L : Addr} {l : List (Str × Value)} {x : Str} {c : Addr} {its : Array Value} {pos pos' pos'' p4 : Pos} {e : Expr} {pl : Sem Bool} {Q : Flow → Shared → Prop}
    (F : FL S L s.heap l) (hc : s.heap.PlainList c its)
    (h : wpAny (model prog w) A (eval e env) (fun v s₁ => ∃ its', s₁.heap.PlainList c its' ∧ its'.size ≤ sizeLine ∧ ∀ h', h'.PlainList c (its'.push v) → Heap.SameBut c s₁.heap h' → Q .next { s₁ with heap := h' }) E s)
    (hx : (x, .ref c) ∈ l := by k_mem) (hL : env.locals = L := by rfl) (hk : env.scope.kind = .function := by rfl) (hxk : env.kindOf x = some .local := by rfl) (hd : (x == ("__debug__" : Str)) = false := by decide)
    (hi : interactive env = false := by rfl) (hs : swapsWith (.Call (.Attribute (.Name x p4) "append" pos'') [e] [] pos') none pos.line env = pure false := by rfl)
    (he : eval (.Call (.Attribute (.Name x p4) "append" pos'') [e] [] pos') env = (do
      let ov ← eval (.Name x p4) env
      standAt pos''.atName
      let (f, first) ← holding [ov] (getMethod ov "append" pl)
      callWith pos' f first (backTo pos' (starEach [e] env)) []) := by rfl)
    (he' : starEach [e] env = (false, eval e env) :: starEach [] env := by rfl) :
    wpAny (model prog w) A (exec (.Expr (.Call (.Attribute (.Name x p4) "append" pos'') [e] [] pos') pos) env) Q E s := by
  obtain ⟨n, ho⟩ := hc
  refine wpAny_Expr (MethodCall_ (nmL F (getMethod_list_append ho rfl rfl (callWith_method1 (args_cons (wpAny_mono h (fun v s₁ h₁ => args_nil ?_) fun _ _ x => x) he') he')) hx hL hk hxk hd) he) hi hs
  obtain ⟨its', hp, hsz, hq⟩ := h₁
  exact wpAny_list_append_plain hp (fun h' h1 h2 => hq h' h1 h2) hsz
theorem partN {Q : Value → Shared → Prop} (h : Q .none s) : wpAny (model prog w) A (evalPart none env) Q E s := wpAny_pure h
theorem partS {e : Expr} {Q : Value → Shared → Prop} (h : wpAny (model prog w) A (eval e env) Q E s) : wpAny (model prog w) A (evalPart (some e) env) Q E s := h
/-- a cut of a list -/
theorem sliceE {value : Expr} {lower upper : Option Expr} {p pos : Pos} {Q : Value → Shared → Prop}
    (h : wpAny (model prog w) A (eval value env) (fun o s₁ => wpAny (model prog w) A (evalPart lower env) (fun vl s₂ => wpAny (model prog w) A (evalPart upper env) (fun vu s₃ =>
      ∃ l xs lo hi, o = .ref l ∧ s₃.heap.IsList l (List.toArray xs) ∧ xs.length ≤ sizeLine ∧ IsPart vl lo ∧ IsPart vu hi ∧
        ∀ h' c, NewL none s₃.heap h' c (slicePick xs.toArray lo hi none).toList → Q (.ref c) { s₃ with heap := h' }) E s₂) E s₁) E s)
    (ht : ∀ o r, letTemporaryGo value o r = pure () := by intro _ _; rfl) :
    wpAny (model prog w) A (eval (.Subscript value (.Slice lower upper none p) pos) env) Q E s := by
  refine wpAny_Subscript_list_slice (wpAny_mono h (fun o s₁ h₁ => wpAny_mono h₁ (fun vl s₂ h₂ => wpAny_mono h₂ (fun vu s₃ h₃ => ?_) fun _ _ x => x) fun _ _ x => x) fun _ _ x => x) ht
  obtain ⟨l, xs, lo, hi, rfl, hl, hsz, pl, pu, hq⟩ := h₃
  refine ⟨l, xs.toArray, lo, hi, rfl, hl, by simpa using hsz, pl, pu, hq _ _ ⟨⟨stays_push (stays_push (stays_refl _) _) _, ?_⟩, Nat.le_succ _, ?_⟩⟩
  · rw [Heap.size_push, Heap.size_push]; omega
  · have := PlainList.new (s₃.heap.push { cls := .type "slice", data := .fields #[vl, vu, .none] }) (slicePick xs.toArray lo hi none).toList
    rw [Heap.size_push] at this
    simpa using this
/-- a while that is left by its test alone: an invariant with a measure, what holds behind it -/
theorem whileX {test : Expr} {body : List Stmt} {pos : Pos} {Q : Flow → Shared → Prop} (I : Nat → Shared → Prop) (X : Shared → Prop)
    (turn : ∀ n s E', I n s → wpAny (model prog w) A (isTrue test env (eval test env)) (fun b s₂ =>
        if b then wpAny (model prog w) A (execs body env) (fun f s₃ => match f with
            | .next | .cont => ∃ m, m < n ∧ I m s₃
            | .brk => X s₃
            | .ret _ => False) E' s₂
        else X s₂) E' s)
    (n : Nat) (h : I n s) (hX : ∀ s', X s' → Q .next s') : wpAny (model prog w) A (exec (.While test body [] pos) env) Q E s := by
  refine wpAny_While (codeAny_whileLoop I (fun n s hI => ?_) n h)
  refine wpAny_mono (turn n s _ hI) (fun b s₂ h₂ => ?_) fun _ _ x => x
  cases b with
  | true =>
    simp only [if_true] at h₂ ⊢
    refine wpAny_mono h₂ (fun f s₃ h₃ => ?_) fun _ _ x => x
    cases f with
    | next => exact h₃
    | cont => exact h₃
    | brk => exact hX _ h₃
    | ret v => exact h₃.elim
  | false => simp only [Bool.false_eq_true, if_false] at h₂ ⊢; exact wpAny_execs_nil (hX _ h₂)
end
end Mine

namespace Mine
abbrev sz (s : Shared) : Nat := s.heap.objs.size
theorem runs_size {M : Model} {Γ : Ctx} {p : Pos} {t : Sem Fin} {fs : List Frame} {s s' : Shared} {e : End} (h : Runs M Γ p t fs s e s') : sz s ≤ sz s' := by
  induction h <;> (try simp only [sz, Shared.setGen, Heap.size_push, Heap.size_after_update] at *) <;> omega
theorem wakes_size {M : Model} {Γ : Ctx} {p : Pos} {g : Nat} {r : Resume} {s s' : Shared} {res : GenResult} (h : Wakes M Γ p g r s res s') : sz s ≤ sz s' := by
  unfold Wakes at h
  split at h
  · exact h.elim
  · split at h
    · obtain ⟨_, s₁, hr, _, _, rfl⟩ := h; exact (runs_size hr : sz (s.setGen g .running) ≤ sz s₁)
    · rw [h.2]; exact Nat.le_refl _
    · rw [h.2]; exact Nat.le_refl _
  · obtain ⟨_, s₁, hr, _, _, rfl⟩ := h; exact (runs_size hr : sz (s.setGen g .running) ≤ sz s₁)
  · rw [h.2]; exact Nat.le_refl _
  · rw [h.2]; exact Nat.le_refl _
/-- the heap never shrinks -/
theorem wp_size {α : Type} (M : Model) (Γ : Ctx) (n : Nat) (t : Sem α) : ∀ (Q : α → Pos → Shared → Prop) (E : Value → Pos → Shared → Prop) (p : Pos) (s : Shared), n ≤ sz s → Sem.wp M Γ t Q E p s →
    Sem.wp M Γ t (fun a p' s' => n ≤ sz s' ∧ Q a p' s') E p s := by
  induction t with
  | pure a => exact fun Q E p s hn h => ⟨hn, h⟩
  | raise e => exact fun Q E p s hn h => h
  | unsupported _ => exact fun Q E p s _ h => h
  | finish _ => exact fun Q E p s _ h => h
  | rule _ k ih => exact fun Q E p s hn h => ih () Q E p s hn h
  | «at» p' k ih => exact fun Q E p s hn h => ih () Q E p' s hn h
  | load a _ k ih => exact fun Q E p s hn ⟨o, ho, h⟩ => ⟨o, ho, ih o Q E p s hn h⟩
  | update a _ f k ih => exact fun Q E p s hn h => ⟨h.1, ih () Q E p _ (by show n ≤ (s.heap.update a f).objs.size; rw [Heap.size_after_update]; exact hn) h.2⟩
  | loadIfAlive a k ih => exact fun Q E p s hn h => ih _ Q E p s hn h
  | point _ k ih => exact fun Q E p s hn h => ih () Q E p s hn h
  | register _ _ => exact fun Q E p s _ h => h
  | alloc o k ih => exact fun Q E p s hn h => ih _ Q E p _ (by show n ≤ (s.heap.push o).objs.size; rw [Heap.size_push]; exact Nat.le_succ_of_le hn) h
  | fresh k ih => exact fun Q E p s hn h => ih _ Q E p _ hn h
  | ask k ih => exact fun Q E p s hn h => ih _ Q E p s hn h
  | choose src m k ih => exact fun Q E p s hn h => ⟨h.1, ih _ Q E p _ hn h.2⟩
  | os q _ k ih => exact fun Q E p s hn h => ih _ Q E p _ hn h
  | call c hd _ _ k ih => exact fun Q E p s hn ⟨r, s', hr, h⟩ => ⟨r, s', hr, ih r Q E p s' (Nat.le_trans hn (runs_size hr)) h⟩
  | handled own k ih => exact fun Q E p s hn h => ih _ Q E p s hn h
  | genState g k ih => exact fun Q E p s hn ⟨st, hs, h⟩ => ⟨st, hs, ih _ Q E p s hn h⟩
  | newGen c k ih => exact fun Q E p s hn h => ih _ Q E p _ hn h
  | resume g r _ k ih => exact fun Q E p s hn ⟨res, s', hw, h⟩ => ⟨res, s', hw, ih res Q E p s' (Nat.le_trans hn (wakes_size hw)) h⟩
  | yield _ _ _ _ => exact fun Q E p s _ h => h
  | stack k ih => exact fun Q E p s hn h => ih _ Q E p s hn h
  | fork _ _ => exact fun Q E p s _ h => h
  | thread k ih => exact fun Q E p s hn h => ih _ Q E p s hn h
  | await _ _ _ _ _ => exact fun Q E p s _ h => h
theorem with_size {α : Type} {M : Model} {A : Around} {s : Shared} {t : Sem α} {Q : α → Shared → Prop} {E : Value → Shared → Prop}
    (h : wpAny M A t (fun a s' => s.heap.objs.size ≤ s'.heap.objs.size → Q a s') E s) : wpAny M A t Q E s := fun Γ p hΓ =>
  Sem.wp_mono M Γ t (fun _ _ _ x => x.2 x.1) (fun _ _ _ x => x) p s (wp_size M Γ s.heap.objs.size t _ _ p s (Nat.le_refl _) (h Γ p hΓ))
end Mine

namespace Mine
local macro_rules | `(tactic| tb_start) => `(tactic| repeat' (first | exact List.forall_mem_nil _ | refine List.forall_mem_cons.mpr ⟨?_, ?_⟩ | exact Or.inl rfl | exact Or.inr ⟨by (dsimp only; decide), by k_mem⟩))

def mrg {α : Type} (b : α → α → Bool) : List α → List α → List α
  | [], ys => ys
  | x :: xs, [] => x :: xs
  | x :: xs, y :: ys => if b x y then y :: mrg b (x :: xs) ys else x :: mrg b xs (y :: ys)
termination_by xs ys => xs.length + ys.length

theorem mrg_nil_right {α : Type} (b : α → α → Bool) (xs : List α) : mrg b xs [] = xs := by cases xs <;> simp [mrg]
theorem mrg_nil_left {α : Type} (b : α → α → Bool) (ys : List α) : mrg b [] ys = ys := by simp [mrg]
theorem drop_cons {α : Type} {xs : List α} {i : Nat} (h : i < xs.length) : xs.drop i = xs[i] :: xs.drop (i + 1) := List.drop_eq_getElem_cons h

/-- what «is_behind» does when it is called: it tells b, it may turn the object q alone, whose state it counts on -/
structure Beh (prog : Program) (w : World) (S : Heap) (q : Option Addr) (J : Nat → Heap → Prop) (f : Addr) (b : Value → Value → Bool) (dom : Value → Prop) (d : Nat) : Prop where
  fn : ∃ o fd, S.get? f = some o ∧ o.data = .func fd
  stable : ∀ n h h', J n h → (∀ a o, q = some a → h.get? a = some o → h'.get? a = some o) → J n h'
  tells : ∀ (A : Around) (s : Shared) (x y : Value) (n : Nat) (Q E : Value → Shared → Prop), Room A d → S.StaysIn s.heap → dom x → dom y → J n s.heap → n ≤ 100000 →
    (∀ h' tk, Gro q s.heap h' → J (n + 1) h' → Q (.bool (b x y)) { s with heap := h', toks := tk }) →
    wpAny (model prog w) A (call (.ref f) [x, y]) Q E s

section
variable {prog : Program} {w : World} {p : Program} {loose : List Str} {mean : ExcName → Option Value} {mg mb : Str → Option Value}

theorem merged_spec {A : Around} {s : Shared} {q : Option Addr} {J : Nat → Heap → Prop} {f : Addr} {b : Value → Value → Bool} {dom : Value → Prop} {d n : Nat} {l r : Addr} {xs ys : List Value} {Q E : Value → Shared → Prop}
    (R : Room A (d + 1)) (G : GD p loose mean mg mb w (hideO s.heap q)) (hq : ∀ a, q = some a → a < s.heap.objs.size) (B : Beh prog w (hideO s.heap q) q J f b dom d)
    (hl : (hideO s.heap q).IsList l xs.toArray) (hr : (hideO s.heap q).IsList r ys.toArray) (hx : ∀ v ∈ xs, dom v) (hy : ∀ v ∈ ys, dom v) (hsz : xs.length + ys.length ≤ 1000) (hcap : n + (xs.length + ys.length) ≤ 100000) (hJ : J n s.heap)
    (h : ∀ h' tk c k, NewL q s.heap h' c (mrg b xs ys) → k ≤ xs.length + ys.length → J (n + k) h' →
      Q (.ref c) { s with heap := h', toks := tk }) :
    wpAny (model prog w) A (call (.ref 44) [.ref l, .ref r, .ref f]) Q E s := by
  have G' := G.keeps (hideO_stays s.heap q)
  refine callDef (binds := [(Str.ofString "left", .ref l), (Str.ofString "right", .ref r), (Str.ofString "is_behind", .ref f)]) R (G'.X 44 _ (by rfl)) rfl G'.T.nolimit (codeRec_of G'.X (by rfl)) rfl (by rfl) (by decide) (locs rfl) (of_decide_eq_true rfl) (fun h₁ A' E' R' F0 => ?_) rfl rfl rfl
  show wpAny _ _ (execs _ (envX (Str.ofString "merged_lists") _ s.heap.objs.size 44 (.ref 43) [])) _ _ _
  have F : FL (hideO s.heap q) s.heap.objs.size h₁ _ := ⟨F0.lo, stays_trans (hideO_stays _ _) F0.keep, Heap.get?_none_of_le (by cases q <;> simp [hideO, Heap.hide_size])⟩
  have hL0 : s.heap.get? s.heap.objs.size = none := fresh_none _
  refine wpAny_execs_cons (wpAny_Assign_Name (wpAny_List (args_nil ⟨by decide, ?_⟩)))
  refine stL (l' := [(Str.ofString "found", .ref h₁.objs.size), (Str.ofString "left", .ref l), (Str.ofString "right", .ref r), (Str.ofString "is_behind", .ref f)]) (F.push _) (fun h₂ F₂ s₂ => ?_)
  refine wpAny_execs_cons (wpAny_Assign_Name (wpAny_Constant_int ?_))
  refine stL (l' := [(Str.ofString "here", .int 0 _), (Str.ofString "found", .ref h₁.objs.size), (Str.ofString "left", .ref l), (Str.ofString "right", .ref r), (Str.ofString "is_behind", .ref f)]) F₂ (fun h₃ F₃ s₃ => ?_)
  refine wpAny_execs_cons (wpAny_Assign_Name (wpAny_Constant_int ?_))
  refine stL (l' := [(Str.ofString "here", .int 0 _), (Str.ofString "there", .int 0 _), (Str.ofString "found", .ref h₁.objs.size), (Str.ofString "left", .ref l), (Str.ofString "right", .ref r), (Str.ofString "is_behind", .ref f)]) F₃ (fun h₄ F₄ s₄ => ?_)
  have hLc : s.heap.objs.size < h₁.objs.size := F.lo.lt
  have hcL : h₁.objs.size ≠ s.heap.objs.size := Nat.ne_of_gt hLc
  have hc0 : ∀ z : Heap, z.StaysIn h₁ → z.get? h₁.objs.size = none := fun z k => by
    cases e : z.get? h₁.objs.size with
    | none => rfl
    | some o => exact absurd (Heap.lt_size (k _ _ e)) (Nat.lt_irrefl _)
  have hc0' : (hideO s.heap q).get? h₁.objs.size = none := hc0 _ F.keep
  have hqc : q ≠ some h₁.objs.size := fun e => absurd (hq _ e) (Nat.not_lt_of_le (Nat.le_of_lt hLc))
  have hqL : q ≠ some s.heap.objs.size := fun e => absurd (hq _ e) (Nat.lt_irrefl _)
  have P₂ : h₂.PlainList h₁.objs.size ([] : List Value).toArray := plain_keeps (PlainList.new h₁ []) fun o e => (s₂.2 _ hcL).trans e
  have P₄ : h₄.PlainList h₁.objs.size ([] : List Value).toArray := plain_keeps P₂ fun o e => (s₄.2 _ hcL).trans ((s₃.2 _ hcL).trans e)
  have G₀ := G
  have J₄ : J n h₄ := B.stable n _ _ hJ fun a o ha e => (s₄.2 _ fun z => hqL (z ▸ ha)).trans ((s₃.2 _ fun z => hqL (z ▸ ha)).trans ((s₂.2 _ fun z => hqL (z ▸ ha)).trans (Heap.get?_push_of_some _ (F0.keep _ _ e))))
  refine wpAny_execs_cons (whileX (fun m s' => ∃ (i j k : Nat) (acc : List Value) (h' : Heap) (tk : Nat) (t1 t2 : Tok), s' = { s with heap := h', toks := tk } ∧ m = (xs.length - i) + (ys.length - j) ∧
    i ≤ xs.length ∧ j ≤ ys.length ∧ k ≤ i + j ∧ acc ++ mrg b (xs.drop i) (ys.drop j) = mrg b xs ys ∧ acc.length = i + j ∧
    FL (hideO s.heap q) s.heap.objs.size h' [(Str.ofString "here", .int i t1), (Str.ofString "there", .int j t2), (Str.ofString "found", .ref h₁.objs.size), (Str.ofString "left", .ref l), (Str.ofString "right", .ref r), (Str.ofString "is_behind", .ref f)] ∧
    h'.PlainList h₁.objs.size acc.toArray ∧ J (n + k) h' ∧ h₄.objs.size ≤ h'.objs.size)
    (fun s' => ∃ (i j k : Nat) (acc : List Value) (h' : Heap) (tk : Nat) (t1 t2 : Tok), s' = { s with heap := h', toks := tk } ∧
    i ≤ xs.length ∧ j ≤ ys.length ∧ k ≤ i + j ∧ acc ++ (xs.drop i ++ ys.drop j) = mrg b xs ys ∧ acc.length = i + j ∧
    FL (hideO s.heap q) s.heap.objs.size h' [(Str.ofString "here", .int i t1), (Str.ofString "there", .int j t2), (Str.ofString "found", .ref h₁.objs.size), (Str.ofString "left", .ref l), (Str.ofString "right", .ref r), (Str.ofString "is_behind", .ref f)] ∧
    h'.PlainList h₁.objs.size acc.toArray ∧ J (n + k) h' ∧ h₄.objs.size ≤ h'.objs.size) (fun m s1 E1 hI => ?_) (xs.length + ys.length) ?_ ?_)
  · obtain ⟨i, j, k, acc, h', tk, t1, t2, rfl, rfl, hi, hj, hk, hacc, hlen, F, P, Jk, hsz'⟩ := hI
    have hl' := isList_stays hl F.keep
    have hr' := isList_stays hr F.keep
    have G' := G.keeps F.keep
    refine wpAny_isTrue_BoolOp (wpAny_allTrue_And_cons (wpAny_isTrue_Compare1 (nmL F (callB G' (by rfl) boot_len (args_cons (nmL F (args_nil (lenL hl' (by omega) fun t tk' => lt_int (wpAny_truthy_bool ?_)))))))))
    by_cases hi' : i < xs.length
    · rw [if_pos (by simpa using hi')]
      refine wpAny_allTrue_And_cons (wpAny_isTrue_Compare1 (nmL F (callB G' (by rfl) boot_len (args_cons (nmL F (args_nil (lenL hr' (by omega) fun t tk' => lt_int (wpAny_truthy_bool ?_))))))))
      by_cases hj' : j < ys.length
      · rw [if_pos (by simpa using hj')]
        refine wpAny_allTrue_And_nil ?_
        rw [if_pos rfl]
        obtain ⟨o, fd, ho, hfd⟩ := B.fn
        have hxi : xs[((i : Nat) : Int).toNat]? = some xs[i] := by simp [hi']
        have hyj : ys[((j : Nat) : Int).toNat]? = some ys[j] := by simp [hj']
        refine wpAny_execs_cons (wpAny_If (wpAny_isTrue_value (Call_ (nmL F (callWith_def hfd (args_cons (Subscript_ (nmL F (nmL F (item_listL hl' (by omega) (by omega) hxi (args_cons (Subscript_ (nmL F (nmL F (item_listL hr' (by omega) (by omega) hyj (args_nil ⟨F.keep _ _ ho, ?_⟩))))))))))))))))
        refine B.tells _ _ _ _ (n + k) _ _ R' F.keep (hx _ (List.getElem_mem ..)) (hy _ (List.getElem_mem ..)) Jk (by omega) fun h₅ tk₅ k₅ J₅ => wpAny_truthy_bool ?_
        have hS : ∀ a, q = some a → (hideO s.heap q).get? a = none := fun a ha => hideO_self _ ha
        have F₅ := F.gro k₅ hqL hS
        have P₅ : h₅.PlainList h₁.objs.size acc.toArray := PlainList.gro P k₅ hqc
        have step : mrg b (xs.drop i) (ys.drop j) = if b xs[i] ys[j] then ys[j] :: mrg b (xs.drop i) (ys.drop (j + 1)) else xs[i] :: mrg b (xs.drop (i + 1)) (ys.drop j) := by
          rw [drop_cons hi', drop_cons hj', mrg]
        by_cases hb : b xs[i] ys[j] = true
        · rw [if_pos hb] at step
          rw [if_pos hb]
          refine wpAny_execs_cons (appendS F₅ P₅ (Subscript_ (nmL F₅ (nmL F₅ (item_listL (isList_stays hr F₅.keep) (by omega) (by omega) hyj ⟨_, P₅, ?_, fun h₆ P₆ s₆ => ?_⟩)))))
          · simp only [List.size_toArray, hlen]; exact Nat.le_trans (by omega : i + j ≤ 1000) (by decide)
          have F₆ := F₅.but s₆ hcL hc0'
          refine wpAny_execs_cons (wpAny_AugAssign_Name (ldL F₆ (wpAny_Constant_int (iadd_int (stL (l' := [(Str.ofString "here", .int i t1), (Str.ofString "there", .int ((j : Int) + 1) _), (Str.ofString "found", .ref h₁.objs.size), (Str.ofString "left", .ref l), (Str.ofString "right", .ref r), (Str.ofString "is_behind", .ref f)]) F₆ fun h₇ F₇ s₇ => wpAny_execs_nil (wpAny_execs_nil ?_))))))
          have J₇ : J (n + (k + 1)) h₇ := B.stable _ _ _ J₅ fun a o ha e => (s₇.2 _ fun z => hqL (ha.trans (congrArg some z))).trans ((s₆.2 _ fun z => hqc (ha.trans (congrArg some z))).trans e)
          refine ⟨_, ?_, i, j + 1, k + 1, acc ++ [ys[j]], h₇, _, t1, _, rfl, rfl, hi, hj', by omega, by rw [← hacc, step]; simp, by simp [hlen]; omega, F₇, plain_keeps (by simpa using P₆) fun o e => (s₇.2 _ hcL).trans e, J₇, ?_⟩
          · omega
          · have := s₇.1; have := s₆.1; have := k₅.size; dsimp only at *; omega
        · rw [if_neg hb] at step
          rw [if_neg hb]
          refine wpAny_execs_cons (appendS F₅ P₅ (Subscript_ (nmL F₅ (nmL F₅ (item_listL (isList_stays hl F₅.keep) (by omega) (by omega) hxi ⟨_, P₅, ?_, fun h₆ P₆ s₆ => ?_⟩)))))
          · simp only [List.size_toArray, hlen]; exact Nat.le_trans (by omega : i + j ≤ 1000) (by decide)
          have F₆ := F₅.but s₆ hcL hc0'
          refine wpAny_execs_cons (wpAny_AugAssign_Name (ldL F₆ (wpAny_Constant_int (iadd_int (stL (l' := [(Str.ofString "here", .int ((i : Int) + 1) _), (Str.ofString "there", .int j t2), (Str.ofString "found", .ref h₁.objs.size), (Str.ofString "left", .ref l), (Str.ofString "right", .ref r), (Str.ofString "is_behind", .ref f)]) F₆ fun h₇ F₇ s₇ => wpAny_execs_nil (wpAny_execs_nil ?_))))))
          have J₇ : J (n + (k + 1)) h₇ := B.stable _ _ _ J₅ fun a o ha e => (s₇.2 _ fun z => hqL (ha.trans (congrArg some z))).trans ((s₆.2 _ fun z => hqc (ha.trans (congrArg some z))).trans e)
          refine ⟨_, ?_, i + 1, j, k + 1, acc ++ [xs[i]], h₇, _, _, t2, rfl, rfl, hi', hj, by omega, by rw [← hacc, step]; simp, by simp [hlen]; omega, F₇, plain_keeps (by simpa using P₆) fun o e => (s₇.2 _ hcL).trans e, J₇, ?_⟩
          · omega
          · have := s₇.1; have := s₆.1; have := k₅.size; dsimp only at *; omega
      · rw [if_neg (by simpa using hj')]
        have e : j = ys.length := by omega
        refine ⟨i, j, k, acc, h', _, t1, t2, rfl, hi, hj, hk, ?_, hlen, F, P, Jk, hsz'⟩
        subst e
        rw [← hacc, List.drop_length, mrg_nil_right, List.append_nil]
    · rw [if_neg (by simpa using hi')]
      have e : i = xs.length := by omega
      refine ⟨i, j, k, acc, h', _, t1, t2, rfl, hi, hj, hk, ?_, hlen, F, P, Jk, hsz'⟩
      subst e
      rw [← hacc, List.drop_length, mrg_nil_left, List.nil_append]
  · exact ⟨0, 0, 0, [], h₄, _, _, _, rfl, by simp, Nat.zero_le _, Nat.zero_le _, Nat.le_refl _, rfl, rfl, F₄, P₄, J₄, Nat.le_refl _⟩
  · rintro s' ⟨i, j, k, acc, h', tk, t1, t2, rfl, hi, hj, hk, hacc, hlen, F, P, Jk, hsz'⟩
    have hl' := isList_stays hl F.keep
    have hr' := isList_stays hr F.keep
    refine wpAny_execs_cons (wpAny_Return_some (wpAny_BinOp (wpAny_BinOp (nmL F (sliceE (nmL F (partS (nmL F (partN ⟨l, xs, some i, none, rfl, hl', ?_, .int _ _, .none, fun h₅ c₅ n₅ => ?_⟩)))))))))
    · exact Nat.le_trans (by omega : xs.length ≤ 1000) (by decide)
    rw [slicePick_from xs.toArray i (by simpa using hi)] at n₅
    have F₅ := F.gro₀ n₅.toGro
    have P₅ := PlainList.gro P n₅.toGro nofun
    refine addL P₅.isList n₅.list ?_ fun h₆ c₆ n₆ => sliceE (nmL (F₅.gro₀ n₆.toGro) (partS (nmL (F₅.gro₀ n₆.toGro) (partN ⟨r, ys, some j, none, rfl, isList_stays hr (F₅.gro₀ n₆.toGro).keep, ?_, .int _ _, .none, fun h₇ c₇ n₇ => ?_⟩))))
    · have : (xs.drop i).length ≤ xs.length := by simp
      exact Nat.le_trans (by simp [hlen]; omega : _ ≤ 2000) (by decide)
    · exact Nat.le_trans (by omega : ys.length ≤ 1000) (by decide)
    rw [slicePick_from ys.toArray j (by simpa using hj)] at n₇
    refine addL (isList_stays n₆.list n₇.stays) n₇.list ?_ fun h₈ c₈ n₈ => ?_
    · simp
      exact Nat.le_trans (by omega : _ ≤ 2000) (by decide)
    have g : Gro none h' h₈ := n₅.toGro.trans (n₆.toGro.trans (n₇.toGro.trans n₈.toGro))
    have ge : s.heap.objs.size ≤ h'.objs.size := by have e2 := s₂.1; have e3 := s₃.1; have e4 := s₄.1; rw [Heap.size_push] at e2; dsimp only at e2 e3 e4; omega
    refine h h₈ _ c₈ k ⟨⟨stays_trans F.keep g.stays, Nat.le_trans ge g.size⟩, ?_, ?_⟩ (by omega) (B.stable _ _ _ Jk fun a o ha e => g.stays _ _ e)
    · exact Nat.le_trans ge (Nat.le_trans (Nat.le_trans n₅.size (Nat.le_trans n₆.size n₇.size)) n₈.ge)
    · simpa [← hacc] using n₈.lst
end
end Mine

namespace Mine
local macro_rules | `(tactic| tb_start) => `(tactic| repeat' (first | exact List.forall_mem_nil _ | refine List.forall_mem_cons.mpr ⟨?_, ?_⟩ | exact Or.inl rfl | exact Or.inr ⟨by (dsimp only; decide), by k_mem⟩))

/-! ## for -/
section
variable {prog : Program} {w : World} {A : Around} {E : Value → Shared → Prop} {s : Shared} {env : Env}
/-- what a for asks where its iterator stands -/
def ForAt (prog : Program) (w : World) (A : Around) (env : Env) (x : Str) (body : List Stmt) (it : Value) (s₂ : Shared) (Q : Shared → Prop) : Prop :=
  ∃ I fp wr n P St, ∃ Inv : Nat → Shared → Prop, it = .ref I ∧ Walks prog w A I fp wr n P St ∧ (∀ i s', Inv i s' → St i s'.heap) ∧ Inv 0 s₂ ∧
    (∀ i s' v h' tk E', i < n → Inv i s' → P i v → St (i + 1) h' → (∀ b o, b ∉ wr → s'.heap.get? b = some o → h'.get? b = some o) → s'.heap.objs.size ≤ h'.objs.size →
      wpAny (model prog w) A (storeName env x v) (fun _ s₃ => wpAny (model prog w) A (execs body env) (fun f s₄ => f = .next ∧ Inv (i + 1) s₄) E' s₃) E' { s' with heap := h', toks := tk }) ∧
    (∀ s' h' tk, Inv n s' → (∀ b o, b ∉ wr → s'.heap.get? b = some o → h'.get? b = some o) → s'.heap.objs.size ≤ h'.objs.size → Q { s' with heap := h', toks := tk })
theorem forW {x : Str} {px pos : Pos} {iter : Expr} {body : List Stmt} {Q : Flow → Shared → Prop}
    (h : wpAny (model prog w) A (eval iter env) (fun xv s₁ => wpAny (model prog w) A (pyIter xv) (fun it s₂ => ForAt prog w A env x body it s₂ (Q .next)) E s₁) E s)
    (hs : ∀ x, foldedSetIterable iter env x = pure x := by intro _; rfl) :
    wpAny (model prog w) A (exec (.For (.Name x px) iter body [] pos) env) Q E s := by
  refine wpAny_For (wpAny_mono h (fun xv s₁ h₁ => wpAny_mono h₁ (fun it s₂ h₂ => ?_) fun _ _ e => e) fun _ _ e => e) hs
  obtain ⟨I, fp, wr, n, P, St, Inv, rfl, W, hSt, h0, turn, fin⟩ := h₂
  refine codeAny_forLoop (fun m s' => ∃ i, i ≤ n ∧ m = n - i ∧ Inv i s') (fun m s' hI => ?_) n ⟨0, Nat.zero_le _, rfl, h0⟩
  obtain ⟨i, hi, rfl, hI⟩ := hI
  by_cases hlt : i < n
  · refine with_size (W.item i s' _ _ hlt (hSt i s' hI) fun v h' tk hP hst hk hsz => ?_)
    refine wpAny_assign_Name (wpAny_mono (turn i s' v h' tk _ hlt hI hP hst hk hsz) (fun _ s₃ h₃ => wpAny_mono h₃ (fun f s₄ h₄ => ?_) fun _ _ e => e) fun _ _ e => e)
    obtain ⟨rfl, h₄⟩ := h₄
    exact ⟨n - (i + 1), by omega, i + 1, hlt, rfl, h₄⟩
  · have e : i = n := by omega
    subst e
    refine with_size (W.done s' _ _ (hSt i s' hI) fun h' tk hk hsz => ?_)
    exact wpAny_execs_nil (fin s' h' tk hI hk hsz)
end

/-! ## list comprehensions of one clause -/
/-- a source: each step binds the target's names -/
structure Src (prog : Program) (w : World) (A : Around) (target : Expr) (cenv : Env) (I : Addr) (fp wr : List Addr) (n : Nat) (B : Nat → List (Str × Value) → Prop) (St : Nat → Heap → Prop) : Prop where
  sub : ∀ b ∈ wr, b ∈ fp
  frame : ∀ i h h', St i h → (∀ b ∈ fp, ∀ o, h.get? b = some o → h'.get? b = some o) → St i h'
  step : ∀ i (s : Shared) (S : Heap) (l : List (Str × Value)) (Q : Shared → Prop) (E : Value → Shared → Prop), i < n → St i s.heap → FL S cenv.locals s.heap l → cenv.locals ∉ fp → (∀ b ∈ wr, S.get? b = none) →
    (∀ bs h' tk, B i bs → St (i + 1) h' → FL S cenv.locals h' bs → (∀ b o, b ∉ wr → b ≠ cenv.locals → s.heap.get? b = some o → h'.get? b = some o) → s.heap.objs.size ≤ h'.objs.size → Q { s with heap := h', toks := tk }) →
    wpAny (model prog w) A (pyNext (.ref I)) (fun r s₁ => match r with
      | none => False
      | some v => wpAny (model prog w) A (letOwnedTupleGo target (.ref I) v) (fun _ s₂ => wpAny (model prog w) A (assign target cenv v) (fun _ s₃ => Q s₃) E s₂) E s₁) E s
  done : ∀ (s : Shared) (Q : Option Value → Shared → Prop) (E : Value → Shared → Prop), St n s.heap →
    (∀ h' tk, (∀ b o, b ∉ wr → s.heap.get? b = some o → h'.get? b = some o) → Q none { s with heap := h', toks := tk }) → wpAny (model prog w) A (pyNext (.ref I)) Q E s
  self : ∀ i (s : Shared) (Q : Value → Shared → Prop) (E : Value → Shared → Prop), St i s.heap → Q (.ref I) s → wpAny (model prog w) A (pyIter (.ref I)) Q E s

section
variable {prog : Program} {w : World} {A : Around}
theorem Src.name {I : Addr} {fp wr : List Addr} {n : Nat} {P : Nat → Value → Prop} {St : Nat → Heap → Prop} (W : Walks prog w A I fp wr n P St) {x : Str} {px : Pos} {cenv : Env}
    (hx : cenv.kindOf x = some .local) (hk : cenv.scope.kind = .function) : Src prog w A (.Name x px) cenv I fp wr n (fun i bs => ∃ v, P i v ∧ bs = [(x, v)]) St where
  sub := W.sub
  frame := W.frame
  step := fun i s S l Q E hi hst F hC hw hQ => by
    refine with_size (W.item i s _ _ hi hst fun v h' tk hP hst' hk' hsz => ?_)
    refine wpAny_of_eq (by rfl : letOwnedTupleGo (.Name x px) (.ref I) v = pure ()) (wpAny_assign_Name ?_)
    have hCw : cenv.locals ∉ wr := fun z => hC (W.sub _ z)
    have F' : FL S cenv.locals h' l := F.to fun b o hb e => hk' b o (fun z => by
      rcases hb with rfl | hb
      · exact hCw z
      · rw [hw b z] at hb; cases hb) e
    refine stL (l' := [(x, v)]) F' (fun h'' F'' s'' => hQ [(x, v)] h'' _ ⟨v, hP, rfl⟩ (W.frame _ _ _ hst' fun b hb o e => (s''.2 b fun z => hC (z ▸ hb)).trans e) F''
      (fun b o h1 h2 e => (s''.2 b h2).trans (hk' b o h1 e)) (by rw [s''.1]; exact hsz)) (by intro p hp; rw [List.mem_singleton] at hp; exact .inl hp) rfl hk hx
  done := W.done
  self := W.self

theorem Src.pair {I : Addr} {fp wr : List Addr} {n : Nat} {Pt : Nat → Array Value → Prop} {St : Nat → Heap → Prop} {Mid : Nat → Addr → Heap → Prop} (W : WalksU prog w A I fp wr n Pt St Mid) {x y : Str} {px py pos : Pos} {k : Nat} {cenv : Env}
    (hh : A.handled = none) (hx : cenv.kindOf x = some .local) (hy : cenv.kindOf y = some .local) (hk : cenv.scope.kind = .function) (hxy : x ≠ y) (hP2 : ∀ i vals, Pt i vals → ∃ a b, vals = #[a, b]) :
    Src prog w A (.Tuple [.Name x px, .Name y py] k pos) cenv I fp wr n (fun i bs => ∃ a b, Pt i #[a, b] ∧ bs = [(y, b), (x, a)]) St where
  sub := W.sub
  frame := W.frame
  step := fun i s S l Q E hi hst F hC hw hQ => by
    have hCw : cenv.locals ∉ wr := fun z => hC (W.sub _ z)
    refine with_size (W.item i s _ _ hi hst fun T vals h₁ tk hP hT hm hk₁ hsz₁ => ?_)
    refine with_size (W.go _ _ _ i T _ _ _ hm fun h₂ hst₂ hk₂ hsz₂ => ?_)
    obtain ⟨a, b, rfl⟩ := hP2 i vals hP
    have hTw := W.apart _ _ _ hm
    have hT₂ : IsTup h₂ T #[a, b] := by obtain ⟨o, e, r⟩ := hT; exact ⟨o, hk₂ _ _ hTw e, r⟩
    refine with_size (assign_Tuple_tuple hh hT₂ rfl rfl fun h₃ he₃ => ?_)
    show wpAny _ _ (assignInOrder [assign (.Name x px) cenv, assign (.Name y py) cenv] [a, b]) _ _ _
    have F₁ : FL S cenv.locals h₂ l := F.to fun b o hb e => by
      have hbw : b ∉ wr := fun z => by
        rcases hb with rfl | hb
        · exact hCw z
        · rw [hw b z] at hb; cases hb
      exact hk₂ _ _ hbw (hk₁ b o hbw e)
    have F₃ : FL S cenv.locals h₃ l := F₁.to fun b o hb e => he₃ b o (Nat.ne_of_lt (Heap.lt_size e)) e
    refine assignInOrder_cons (wpAny_assign_Name (stL (l' := [(x, a)]) F₃ (fun h₄ F₄ s₄ => ?_) (by intro p hp; rw [List.mem_singleton] at hp; exact .inl hp) rfl hk hx))
    refine assignInOrder_cons (wpAny_assign_Name (stL (l' := [(y, b), (x, a)]) F₄ (fun h₅ F₅ s₅ => ?_) ?_ rfl hk hy))
    · refine assignInOrder_nil (fun hsz₃ => hQ _ h₅ _ ⟨a, b, hP, rfl⟩ ?_ F₅ (fun b o h1 h2 e => (s₅.2 b h2).trans ((s₄.2 b h2).trans (he₃ b o (Nat.ne_of_lt (Heap.lt_size (hk₂ b o h1 (hk₁ b o h1 e)))) (hk₂ b o h1 (hk₁ b o h1 e))))) ?_)
      · refine W.frame _ _ _ hst₂ fun b hb o e => (s₅.2 b fun z => hC (z ▸ hb)).trans ((s₄.2 b fun z => hC (z ▸ hb)).trans (he₃ b o (Nat.ne_of_lt (Heap.lt_size e)) e))
      · have := s₅.1; have := s₄.1; dsimp only at *; omega
    · intro p hp
      simp only [List.mem_cons, List.not_mem_nil, or_false] at hp
      rcases hp with rfl | rfl
      · exact .inl rfl
      · exact .inr ⟨hxy, List.mem_cons_self ..⟩
  done := W.done
  self := W.self
end
end Mine

namespace Mine
/-- the tests of a clause -/
abbrev tests (ifs : List Expr) (env : Env) : Sem Bool := forIn ifs true fun c r => if r = true then do let ok ← isTrue c env (eval c env); pure (ForInStep.yield ok) else pure (ForInStep.yield r)

section
variable {prog : Program} {w : World} {A : Around} {R : Result → Shared → Prop} {s : Shared}
theorem compLoopX {elt target iter : Expr} {ifs : List Expr} {scope : Scope} {pos : Pos} {it acc : Value} {env : Env} (Inv : Nat → Shared → Prop)
    (turn : ∀ n s E', Inv n s → wpAny (model prog w) A (pyNext it) (fun r s₁ => match r with
      | none => R (.ok .next) s₁
      | some v => wpAny (model prog w) A (letOwnedTupleGo target it v) (fun _ s₂ => wpAny (model prog w) A (assign target env v) (fun _ s₃ =>
          wpAny (model prog w) A (tests ifs env) (fun ok s₄ => if ok = true then wpAny (model prog w) A (eval elt env) (fun x s₅ =>
              wpAny (model prog w) A (call (.builtin "list.append") [acc, x]) (fun _ s₆ => ∃ m, m < n ∧ Inv m s₆) E' s₅) E' s₄
            else ∃ m, m < n ∧ Inv m s₄) E' s₃) E' s₂) E' s₁) E' s)
    (n : Nat) (h : Inv n s) : codeAny (model prog w) A (.compLoop (.ListComp elt [⟨target, iter, ifs, 0⟩] scope pos) 0 it acc env) R s := by
  refine codeAny_loop rfl Inv (fun n s hI => ?_) n h
  show wpAny _ A ((compTurn (.ListComp elt [⟨target, iter, ifs, 0⟩] scope pos) 0 it acc env).onRaise (fun x => do noteFrame x env; theTreesLotGoes x)) _ _ s
  refine wpAny_noted ?_
  rw [compTurn_list]
  refine wpAny_bind (wpAny_standAt (wpAny_bind (wpAny_mono (turn n s _ hI) (fun r s₁ h₁ => ?_) fun _ _ h' => h')))
  cases r with
  | none => exact wpAny_pure h₁
  | some v =>
    refine wpAny_bind (wpAny_mono h₁ (fun _ s₂ h₂ => wpAny_bind (wpAny_mono h₂ (fun _ s₃ h₃ => wpAny_bind (wpAny_mono h₃ (fun ok s₄ h₄ => ?_) fun _ _ h' => h')) fun _ _ h' => h')) fun _ _ h' => h')
    cases ok with
    | false => exact wpAny_pure ⟨rfl, h₄⟩
    | true => exact wpAny_bind (wpAny_bind (wpAny_mono h₄ (fun x s₅ h₅ => wpAny_bind (wpAny_mono h₅ (fun _ s₆ h₆ => wpAny_pure (wpAny_pure ⟨rfl, h₆⟩)) fun _ _ h' => h')) fun _ _ h' => h'))

theorem tests_nil {env : Env} {Q : Bool → Shared → Prop} {E : Value → Shared → Prop} (h : Q true s) : wpAny (model prog w) A (tests [] env) Q E s := wpAny_pure h
theorem tests_one {env : Env} {c : Expr} {Q : Bool → Shared → Prop} {E : Value → Shared → Prop} (h : wpAny (model prog w) A (isTrue c env (eval c env)) Q E s) : wpAny (model prog w) A (tests [c] env) Q E s := wpAny_tests_one h
end

/-- what a comprehension asks where its iterator stands; K N i ys h: i items are taken, ys is built of them, objects of h from N on bear it -/
structure CompAt (prog : Program) (w : World) (A : Around) (env : Env) (scope : Scope) (cl : List (Str × Addr)) (target elt : Expr) (ifs : List Expr) (H₀ : Heap) (s₂ : Shared)
    (I : Addr) (fp wr : List Addr) (n : Nat) (B : Nat → List (Str × Value) → Prop) (St : Nat → Heap → Prop) (K : Nat → Nat → List Value → Heap → Prop) : Prop where
  src : ∀ C, Src prog w A target (compEnvC scope cl C env) I fp wr n B St
  sml : n ≤ sizeLine
  st : St 0 s₂.heap
  fpl : ∀ b : Nat, b ∈ fp → b < s₂.heap.objs.size
  old : H₀.StaysIn s₂.heap
  osz : H₀.objs.size ≤ s₂.heap.objs.size
  wrn : ∀ b ∈ wr, H₀.get? b = none
  k0 : ∀ N h, K N 0 [] h
  kst : ∀ N i ys h h', K N i ys h → (∀ (b : Nat) o, N ≤ b → h.get? b = some o → h'.get? b = some o) → K N i ys h'
  turn : ∀ N C i ys bs (s₃ : Shared) E', i < n → B i bs → s₂.heap.objs.size ≤ N → N ≤ s₃.heap.objs.size → FL H₀ C s₃.heap bs → K N i ys s₃.heap →
    wpAny (model prog w) A (tests ifs (compEnvC scope cl C env)) (fun ok s₄ =>
      if ok = true then wpAny (model prog w) A (eval elt (compEnvC scope cl C env)) (fun y s₅ => ∃ h tk, s₅ = { s₃ with heap := h, toks := tk } ∧ s₃.heap.StaysIn h ∧ K N (i + 1) (ys ++ [y]) h) E' s₄
      else ∃ h tk, s₄ = { s₃ with heap := h, toks := tk } ∧ s₃.heap.StaysIn h ∧ K N (i + 1) ys h) E' s₃

section
variable {prog : Program} {w : World} {A : Around} {E : Value → Shared → Prop} {env : Env} {scope : Scope} {cl : List (Str × Addr)} {target elt iter : Expr} {ifs : List Expr} {H₀ : Heap} {s₂ : Shared}
    {I : Addr} {fp wr : List Addr} {n : Nat} {B : Nat → List (Str × Value) → Prop} {St : Nat → Heap → Prop} {K : Nat → Nat → List Value → Heap → Prop}
theorem CompAt.block {pos : Pos} {RR : Value → Addr → Result → Shared → Prop} (X : CompAt prog w A env scope cl target elt ifs H₀ s₂ I fp wr n B St K)
    (hcell : ∀ y ∈ scope.names, y.2 ≠ .cell) (hkind : scope.kind = .function)
    (hRR : ∀ (D C : Nat) h' tk ys (N : Nat), NewL none H₀ h' D ys → K N n ys h' → s₂.heap.objs.size ≤ D → D < C → C < N → (∃ m, h'.Ns C m) → RR (.ref D) C (.ok .next) { s₂ with heap := h', toks := tk }) :
    wpAny (model prog w) A (newList []) (fun acc s₃ => wpAny (model prog w) A (newFunctionEnv scope env.globals cl [] env.qual none .none (some env)) (fun cenv s₄ =>
      codeAny (model prog w) A (.compStart (.ListComp elt [⟨target, iter, ifs, 0⟩] scope pos) 0 (.ref I) acc { cenv with scope := relabel scope env }) (RR acc cenv.locals) s₄) E s₃) E s₂ := by
  refine wpAny_newObj_type (wpAny_newFunctionEnv hcell (by intro y hy; simp at hy) (fun h₁ hns₁ hsb₁ => ?_) hkind)
  dsimp only at hns₁ hsb₁ ⊢
  generalize hH2 : s₂.heap.push { cls := .type "list", dict := none, data := .seq ([] : List Value).toArray } = H2 at hns₁ hsb₁ ⊢
  have hC : H2.objs.size = s₂.heap.objs.size + 1 := by rw [← hH2, Heap.size_push]
  generalize hCC : H2.objs.size = C at hns₁ hsb₁ hC ⊢
  have hC' : @Eq Nat C (s₂.heap.objs.size + 1) := hC
  have hCC' : @Eq Nat H2.objs.size C := hCC
  have hD : s₂.heap.objs.size ≠ C := by omega
  generalize hDD : s₂.heap.objs.size = D at hC hC' hD
  have old : s₂.heap.StaysIn h₁ := fun b o e => hsb₁.extBut b o (neA (by have := ltS e; omega)) (Heap.get?_push_of_some _ (hH2 ▸ Heap.get?_push_of_some _ e))
  have sz₁ : h₁.objs.size = C + 1 := by rw [hsb₁.1, Heap.size_push, hCC]
  have hacc : h₁.PlainList D ([] : List Value).toArray := ⟨_, hsb₁.extBut _ _ hD (Heap.get?_push_of_some _ (by rw [← hH2, ← hDD]; exact Heap.get?_push_size _ rfl))⟩
  have st₁ : St 0 h₁ := (X.src C).frame _ _ _ X.st fun b _ o e => old b o e
  have hDf : D ∉ fp := fun z => by have := X.fpl D z; omega
  have hCf : C ∉ fp := fun z => by have := X.fpl C z; omega
  have hDw : D ∉ wr := fun z => hDf ((X.src C).sub _ z)
  have H0 : H₀.StaysIn h₁ := stays_trans X.old old
  have hCn : H₀.get? C = none := Heap.get?_none_of_le (by have := X.osz; omega)
  have hDn : H₀.get? D = none := Heap.get?_none_of_le (by have := X.osz; omega)
  have loop : ∀ s₃ : Shared, s₃ = { s₂ with heap := h₁, toks := s₂.toks + ([] : List (Str × Value)).length } →
      codeAny (model prog w) A (.compLoop (.ListComp elt [⟨target, iter, ifs, 0⟩] scope pos) 0 (.ref I) (.ref D) (compEnvC scope cl C env)) (RR (.ref D) C) s₃ := by
    rintro s₃ rfl
    refine compLoopX (fun k s' => ∃ (i : Nat) (ys : List Value) (h' : Heap) (tk : Nat) (l : List (Str × Value)), s' = { s₂ with heap := h', toks := tk } ∧ i ≤ n ∧ k = n - i ∧ ys.length ≤ i ∧ St i h' ∧ FL H₀ C h' l ∧ h'.PlainList D ys.toArray ∧ K (C + 1) i ys h' ∧ C + 1 ≤ h'.objs.size)
      (fun k s' E' hI => ?_) n ⟨0, [], h₁, _, [], rfl, Nat.zero_le _, rfl, Nat.le_refl _, st₁, ⟨⟨_, hns₁, by simp⟩, H0, hCn⟩, hacc, X.k0 _ _, by omega⟩
    obtain ⟨i, ys, h', tk, l, rfl, hi, rfl, hlen, hst, F, P, hK, hsz⟩ := hI
    by_cases hlt : i < n
    · refine wpAny_mono ((X.src C).step i _ H₀ l (fun s₃ => wpAny (model prog w) A (tests ifs (compEnvC scope cl C env)) (fun ok s₄ => if ok = true then wpAny (model prog w) A (eval elt (compEnvC scope cl C env)) (fun x s₅ =>
              wpAny (model prog w) A (call (.builtin "list.append") [.ref D, x]) (fun _ s₆ => ∃ m, m < n - i ∧ ∃ (i : Nat) (ys : List Value) (h' : Heap) (tk : Nat) (l : List (Str × Value)), s₆ = { s₂ with heap := h', toks := tk } ∧ i ≤ n ∧ m = n - i ∧ ys.length ≤ i ∧ St i h' ∧ FL H₀ C h' l ∧ h'.PlainList D ys.toArray ∧ K (C + 1) i ys h' ∧ C + 1 ≤ h'.objs.size) E' s₅) E' s₄
            else ∃ m, m < n - i ∧ ∃ (i : Nat) (ys : List Value) (h' : Heap) (tk : Nat) (l : List (Str × Value)), s₄ = { s₂ with heap := h', toks := tk } ∧ i ≤ n ∧ m = n - i ∧ ys.length ≤ i ∧ St i h' ∧ FL H₀ C h' l ∧ h'.PlainList D ys.toArray ∧ K (C + 1) i ys h' ∧ C + 1 ≤ h'.objs.size) E' s₃) E' hlt hst F hCf X.wrn
          (fun bs h₂ tk₂ hB hst₂ F₂ hk₂ hsz₂ => ?_)) (fun r s₁ h₁ => ?_) fun _ _ x => x
      · have P₂ : h₂.PlainList D ys.toArray := plain_keeps P fun o e => hk₂ D o hDw hD e
        have K₂ : K (C + 1) i ys h₂ := X.kst _ _ _ _ _ hK fun b o hb e => hk₂ b o (fun z => by have := X.fpl b ((X.src C).sub _ z); omega) (neA (by show @Ne Nat b C; omega)) e
        refine with_size (wpAny_mono (X.turn (C + 1) C i ys bs _ E' hlt hB (by omega) (Nat.le_trans hsz hsz₂) F₂ K₂) (fun ok s₄ h₄ => ?_) fun _ _ x => x)
        cases ok with
        | false =>
          simp only [Bool.false_eq_true, if_false] at h₄ ⊢
          obtain ⟨h₅, tk₅, rfl, hs₅, K₅⟩ := h₄
          intro hsz₅
          exact ⟨n - (i + 1), by omega, i + 1, ys, h₅, _, bs, rfl, hlt, rfl, by omega, (X.src C).frame _ _ _ hst₂ fun b _ o e => hs₅ b o e, F₂.grow hs₅, plain_keeps P₂ fun o e => hs₅ _ o e, K₅, by dsimp only at hsz₅ hsz₂; omega⟩
        | true =>
          simp only [if_true] at h₄ ⊢
          intro hsz₄
          refine with_size (wpAny_mono h₄ (fun y s₅ h₅ => ?_) fun _ _ x => x)
          obtain ⟨h₅, tk₅, rfl, hs₅, K₅⟩ := h₅
          intro hsz₅
          refine wpAny_list_append_plain (plain_keeps P₂ fun o e => hs₅ _ o e) (fun h₆ P₆ s₆ => ?_) (by have := X.sml; simp; omega)
          have F₅ := F₂.grow hs₅
          refine ⟨n - (i + 1), by omega, i + 1, ys ++ [y], h₆, _, bs, rfl, hlt, rfl, by simp; omega, (X.src C).frame _ _ _ hst₂ fun b hb o e => (s₆.2 b fun z => hDf (z ▸ hb)).trans (hs₅ b o e), F₅.but s₆ hD hDn, by simpa using P₆, ?_, by have := s₆.1; dsimp only at *; omega⟩
          exact X.kst _ _ _ _ _ K₅ fun b o hb e => (s₆.2 b (neA (by omega))).trans e
      · cases r with
        | none => exact h₁.elim
        | some v => exact h₁
    · have e : i = n := by omega
      subst e
      refine with_size ((X.src C).done _ _ _ hst fun h₂ tk₂ hk₂ hsz₂ => ?_)
      have hCw : C ∉ wr := fun z => hCf ((X.src C).sub _ z)
      refine hRR D C h₂ tk₂ ys (C + 1) ⟨⟨fun b o e => hk₂ b o (fun z => by have e' : H₀.get? b = some o := e; rw [X.wrn b z] at e'; cases e') (F.keep b o e), by have := X.osz; dsimp only at hsz₂; omega⟩, by have := X.osz; omega, plain_keeps P fun o e => hk₂ D o hDw e⟩ ?_ (by omega) (by omega) (by omega) ?_
      · exact X.kst _ _ _ _ _ hK fun b o hb e => hk₂ b o (fun z => by have := X.fpl b ((X.src C).sub _ z); omega) e
      · obtain ⟨m, hn, _⟩ := F.lo
        obtain ⟨o, es, ep, e, r⟩ := hn
        exact ⟨m, o, es, ep, hk₂ C o hCw e, r⟩
  have loop' := loop _ rfl
  exact codeAny_compStart_list loop' ((X.src C).self 0 _ _ _ st₁ loop')
theorem lcE {s : Shared} {pos : Pos} {Q : Value → Shared → Prop} (hclos : closureFor scope env = pure cl) (hcell : ∀ y ∈ scope.names, y.2 ≠ .cell) (hkind : scope.kind = .function)
    (hnames : ∀ y ∈ scope.names, y.2 = .local → scope.names.lookup y.1 = some .local)
    (h : wpAny (model prog w) A (eval iter env) (fun xv s₁ => wpAny (model prog w) A (pyIter xv) (fun it s₂ => ∃ I fp wr n B St K H₀, it = .ref I ∧ CompAt prog w A env scope cl target elt ifs H₀ s₂ I fp wr n B St K ∧
      ∀ D h' tk ys (N : Nat), NewL none H₀ h' D ys → K N n ys h' → s₂.heap.objs.size ≤ N → Q (.ref D) { s₂ with heap := h', toks := tk }) E s₁) E s)
    (hs : ∀ x, foldedSetIterable iter env x = pure x := by intro _; rfl) :
    wpAny (model prog w) A (eval (.ListComp elt [⟨target, iter, ifs, 0⟩] scope pos) env) Q E s := by
  rw [eval_ListComp]
  refine wpAny_comprehension_free (use := none) rfl hs hclos hkind hnames (wpAny_mono h (fun xv s₁ h₁ => wpAny_mono h₁ (fun it s₂ h₂ => ?_) fun _ _ e => e) fun _ _ e => e)
  obtain ⟨I, fp, wr, n, B, St, K, H₀, rfl, X, hQ⟩ := h₂
  refine X.block (RR := fun acc C => compPost (model prog w) A E none Q acc C) hcell hkind ?_
  intro D C h' tk ys N n₁ hK hD hDC hCN ⟨m, hn⟩
  have hC0 : H₀.get? C = none := Heap.get?_none_of_le (by have := X.osz; omega)
  refine ⟨m, hn, fun h'' hs'' => hQ D h'' tk ys N ⟨n₁.toGro.but hs'' (.inl hC0), n₁.ge, plain_keeps n₁.lst fun o e => (hs''.2 D (neA (by omega))).trans e⟩ (X.kst _ _ _ _ _ hK fun b o hb e => (hs''.2 b (neA (by omega))).trans e) (by omega)⟩

theorem lcA {s : Shared} {y : Str} {py pos spos : Pos} {Q : Flow → Shared → Prop} {S : Heap} {L : Addr} {l : List (Str × Value)}
    (hsw : swapsWith (.ListComp elt [⟨target, iter, ifs, 0⟩] scope pos) (some (.Name y py)) spos.line env = pure true)
    (hclos : closureFor scope env = pure cl) (hcell : ∀ y ∈ scope.names, y.2 ≠ .cell) (hkind : scope.kind = .function)
    (hnames : ∀ y ∈ scope.names, y.2 = .local → scope.names.lookup y.1 = some .local)
    (h : wpAny (model prog w) A (eval iter env) (fun xv s₁ => wpAny (model prog w) A (pyIter xv) (fun it s₂ => ∃ I fp wr n B St K H₀, it = .ref I ∧ CompAt prog w A env scope cl target elt ifs H₀ s₂ I fp wr n B St K ∧ FL S L H₀ l ∧
      ∀ (D : Nat) h' tk ys (N : Nat), (∀ b o, b ≠ L → H₀.get? b = some o → h'.get? b = some o) → H₀.objs.size ≤ h'.objs.size → H₀.objs.size ≤ D → h'.PlainList D ys.toArray → K N n ys h' → s₂.heap.objs.size ≤ N → FL S L h' ((y, .ref D) :: l) →
        Q .next { s₂ with heap := h', toks := tk }) E s₁) E s)
    (hy : ∀ p ∈ l, p.1 ≠ y) (hL : env.locals = L := by rfl) (hk : env.scope.kind = .function := by rfl) (hyk : env.kindOf y = some .local := by rfl)
    (hs : ∀ x, foldedSetIterable iter env x = pure x := by intro _; rfl) :
    wpAny (model prog w) A (exec (.Assign [.Name y py] (.ListComp elt [⟨target, iter, ifs, 0⟩] scope pos) spos) env) Q E s := by
  rw [exec_Assign_Name_used _ _ _ _ hsw]
  refine wpAny_bind (wpAny_standAt (wpAny_bind ?_))
  show wpAny _ A (do let _ ← comprehension (.ListComp elt [⟨target, iter, ifs, 0⟩] scope pos) scope env _ (newList []) false (eval iter env) (some (assign (.Name y py) env))) _ _ s
  refine wpAny_bind (wpAny_mono (wpAny_comprehension_free (use := some (assign (.Name y py) env)) (Q := fun _ s' => Q .next s') rfl hs hclos hkind hnames
    (wpAny_mono h (fun xv s₁ h₁ => wpAny_mono h₁ (fun it s₂ h₂ => ?_) fun _ _ e => e) fun _ _ e => e)) (fun _ s' hq => wpAny_pure (wpAny_pure hq)) fun _ _ e => e)
  obtain ⟨I, fp, wr, n, B, St, K, H₀, rfl, X, F, hQ⟩ := h₂
  refine X.block (RR := fun acc C => compPost (model prog w) A E (some (assign (.Name y py) env)) (fun _ s' => Q .next s') acc C) hcell hkind ?_
  intro D C h' tk ys N n₁ hK hD hDC hCN ⟨m, hn⟩
  have hLs : @LT.lt Nat _ L H₀.objs.size := F.lo.lt
  have osz := X.osz
  have hLC : @Ne Nat L C := by omega
  have hLD : @Ne Nat L D := by omega
  have F₁ : FL S L h' l := F.grow n₁.stays
  show wpAny _ A (assign (.Name y py) env (.ref D)) _ _ _
  refine wpAny_assign_Name (stL (l' := (y, .ref D) :: l) F₁ (fun h₂ F₂ s₂' => ⟨m, hn.sameBut s₂' hLC.symm, fun h₃ s₃ => ?_⟩) ?_ hL hk hyk)
  · have hLN : @LT.lt Nat _ L N := by omega
    refine hQ D h₃ _ ys N (fun b o hb e => (s₃.2 b fun z => ?_).trans ((s₂'.2 b hb).trans (n₁.stays b o e))) ?_ n₁.ge (plain_keeps n₁.lst fun o e => (s₃.2 D (neA (by omega))).trans ((s₂'.2 D hLD.symm).trans e))
      (X.kst _ _ _ _ _ hK fun b o hb e => (s₃.2 b (neA (by omega))).trans ((s₂'.2 b (neA (by omega))).trans e)) (by omega) ?_
    · have := ltS e; subst z; omega
    · have := s₃.1; have := s₂'.1; have := n₁.size; dsimp only at *; omega
    · refine F₂.but s₃ hLC.symm ?_
      cases e : S.get? C with
      | none => rfl
      | some o => have := ltS (F.keep _ _ e); omega
  · intro p hp
    rcases List.mem_cons.mp hp with rfl | hp
    · exact .inl rfl
    · exact .inr ⟨hy p hp, hp⟩
end
end Mine

namespace Mine
/-! ## the sort, plainly -/
def pass {α : Type} (b : α → α → Bool) : List (List α) → List (List α)
  | x :: y :: r => mrg b x y :: pass b r
  | r => r
theorem pass_length {α : Type} (b : α → α → Bool) : ∀ l : List (List α), (pass b l).length = (l.length + 1) / 2
  | [] => by simp [pass]
  | [_] => by simp [pass]
  | x :: y :: r => by simp only [pass, List.length_cons, pass_length b r]; omega
def srt {α : Type} (b : α → α → Bool) (l : List (List α)) : List α :=
  if h : l.length ≤ 1 then l.headD [] else srt b (pass b l)
termination_by l.length
decreasing_by rw [pass_length]; omega
def msort {α : Type} (b : α → α → Bool) (l : List α) : List α := srt b (l.map fun x => [x])
theorem mrg_perm {α : Type} (b : α → α → Bool) : ∀ (xs ys : List α), (mrg b xs ys).Perm (xs ++ ys)
  | [], ys => by simp [mrg]
  | x :: xs, [] => by simp [mrg]
  | x :: xs, y :: ys => by
    rw [mrg]
    by_cases h : b x y = true
    · rw [if_pos h]
      exact (List.Perm.cons y (mrg_perm b (x :: xs) ys)).trans (List.perm_middle (l₁ := x :: xs)).symm
    · rw [if_neg h]
      exact List.Perm.cons x (mrg_perm b xs (y :: ys))
termination_by xs ys => xs.length + ys.length
theorem pass_perm {α : Type} (b : α → α → Bool) : ∀ l : List (List α), (pass b l).flatten.Perm l.flatten
  | [] => .refl _
  | [_] => .refl _
  | x :: y :: r => by
    simp only [pass, List.flatten_cons]
    rw [← List.append_assoc]
    exact (mrg_perm b x y).append (pass_perm b r)
theorem srt_perm {α : Type} (b : α → α → Bool) (l : List (List α)) : (srt b l).Perm l.flatten := by
  rw [srt]
  split
  · rename_i h
    match l, h with
    | [], _ => simp
    | [x], _ => simp
  · exact (srt_perm b (pass b l)).trans (pass_perm b l)
termination_by l.length
decreasing_by rw [pass_length]; omega
theorem msort_perm {α : Type} (b : α → α → Bool) (l : List α) : (msort b l).Perm l := by
  have h := srt_perm b (l.map fun x => [x])
  have e : (l.map fun x => [x]).flatten = l := by induction l with
    | nil => rfl
    | cons a l ih => simp [ih (srt_perm b _)]
  rw [e] at h; exact h
theorem pass_drop {α : Type} (b : α → α → Bool) (l : List (List α)) (i : Nat) (h : 2 * i + 1 < l.length) :
    pass b (l.drop (2 * i)) = mrg b l[2 * i] l[2 * i + 1] :: pass b (l.drop (2 * (i + 1))) := by
  rw [drop_cons (by omega : 2 * i < l.length), drop_cons (by omega : 2 * i + 1 < l.length), pass]
  rw [show 2 * i + 1 + 1 = 2 * (i + 1) by omega]

/-! ## lists of lists -/
structure Runs (h : Heap) (lo : Nat) (rs : List Value) (xss : List (List Value)) : Prop where
  len : rs.length = xss.length
  each : ∀ (i : Nat) v xs, rs[i]? = some v → xss[i]? = some xs → ∃ a : Nat, v = .ref a ∧ lo ≤ a ∧ h.PlainList a xs.toArray
theorem Runs.keeps {h h' : Heap} {lo : Nat} {rs : List Value} {xss : List (List Value)} (R : Runs h lo rs xss) (k : ∀ (b : Nat) o, lo ≤ b → h.get? b = some o → h'.get? b = some o) : Runs h' lo rs xss :=
  ⟨R.len, fun i v xs e1 e2 => let ⟨a, e, hl, p⟩ := R.each i v xs e1 e2; ⟨a, e, hl, plain_keeps p fun o q => k a o hl q⟩⟩
theorem Runs.lower {h : Heap} {lo lo' : Nat} {rs : List Value} {xss : List (List Value)} (R : Runs h lo rs xss) (k : lo' ≤ lo) : Runs h lo' rs xss :=
  ⟨R.len, fun i v xs e1 e2 => let ⟨a, e, hl, p⟩ := R.each i v xs e1 e2; ⟨a, e, Nat.le_trans k hl, p⟩⟩
theorem Runs.snoc {h : Heap} {lo : Nat} {rs : List Value} {xss : List (List Value)} (R : Runs h lo rs xss) {a : Nat} {xs : List Value} (hl : lo ≤ a) (p : h.PlainList a xs.toArray) : Runs h lo (rs ++ [.ref a]) (xss ++ [xs]) := by
  refine ⟨by simp [R.len], fun i v ys e1 e2 => ?_⟩
  rcases Nat.lt_or_ge i rs.length with hi | hi
  · rw [List.getElem?_append_left hi] at e1
    rw [List.getElem?_append_left (R.len ▸ hi)] at e2
    exact R.each i v ys e1 e2
  · rw [List.getElem?_append_right hi] at e1
    rw [List.getElem?_append_right (R.len ▸ hi)] at e2
    rw [R.len] at e1
    match hj : i - xss.length with
    | 0 => rw [hj] at e1 e2; cases e1; cases e2; exact ⟨a, rfl, hl, p⟩
    | k + 1 => rw [hj] at e1; cases e1
theorem Runs.nil (h : Heap) (lo : Nat) : Runs h lo [] [] := ⟨rfl, fun i v xs e => by cases e⟩

theorem hide_get {h : Heap} {L b : Addr} {o : Obj} (e : h.get? b = some o) (n : b ≠ L) : (h.hide L).get? b = some o := (Heap.hide_ne h n).trans e
/-- all of the heap at hand is known, but the frame and q -/
theorem FL.rebase {S h : Heap} {L : Addr} {l} (F : FL S L h l) (q : Option Addr) (hS : ∀ a, q = some a → S.get? a = none) :
    FL (hideO (h.hide L) q) L h l ∧ S.StaysIn (hideO (h.hide L) q) ∧ ∀ a, q = some a → (hideO (h.hide L) q).get? a = none := by
  refine ⟨⟨F.lo, stays_trans (hideO_stays _ _) fun b o e => Heap.of_hide e, ?_⟩, stays_hideO (fun b o e => hide_get (F.keep b o e) fun z => ?_) hS, fun a ha => hideO_self _ ha⟩
  · cases e : (hideO (h.hide L) q).get? L with
    | none => rfl
    | some o => have := hideO_stays _ _ _ _ e; rw [Heap.hide_self] at this; cases this
  · rw [z, F.off] at e; cases e
theorem rebase_get {h : Heap} {L b : Addr} {o : Obj} {q : Option Addr} (e : h.get? b = some o) (n : b ≠ L) (hq : q ≠ some b) : (hideO (h.hide L) q).get? b = some o := hideO_get (hide_get e n) hq
theorem Beh.mono {prog : Program} {w : World} {S S' : Heap} {q : Option Addr} {J : Nat → Heap → Prop} {f : Addr} {b : Value → Value → Bool} {dom : Value → Prop} {d : Nat} (B : Beh prog w S q J f b dom d) (k : S.StaysIn S') : Beh prog w S' q J f b dom d :=
  ⟨let ⟨o, fd, h, e⟩ := B.fn; ⟨o, fd, k _ _ h, e⟩, B.stable, fun A s x y n Q E R hS => B.tells A s x y n Q E R (stays_trans k hS)⟩
theorem Beh.gro {prog : Program} {w : World} {S : Heap} {q : Option Addr} {J : Nat → Heap → Prop} {f : Addr} {b : Value → Value → Bool} {dom : Value → Prop} {d n : Nat} (B : Beh prog w S q J f b dom d) {h h' : Heap} (j : J n h) (k : Gro none h h') : J n h' :=
  B.stable n h h' j fun a o _ e => k.stays a o e
theorem Beh.but {prog : Program} {w : World} {S : Heap} {q : Option Addr} {J : Nat → Heap → Prop} {f : Addr} {b : Value → Value → Bool} {dom : Value → Prop} {d n : Nat} (B : Beh prog w S q J f b dom d) {h h' : Heap} {x : Addr} (j : J n h) (s : Heap.SameBut x h h') (hx : q ≠ some x) : J n h' :=
  B.stable n h h' j fun a o ha e => (s.2 a fun z => hx (z ▸ ha)).trans e
theorem range2_size {len : Nat} (h : 2 ≤ len) : Builtin.Range.rangeSize 0 ((len : Int) - 1) 2 = ((len / 2 : Nat) : Int) := by
  unfold Builtin.Range.rangeSize
  rw [if_pos (by decide), if_pos (by omega)]
  omega
theorem range2_small {len : Nat} (h : 2 ≤ len) (h' : len ≤ 100000) : Builtin.Range.small 0 ((len : Int) - 1) 2 = true := by
  unfold Builtin.Range.small
  rw [range2_size h]
  simp only [Builtin.Range.rangeFitsLong, Bool.and_eq_true, Bool.or_eq_true, decide_eq_true_eq, beq_iff_eq, show (2 : Int) > 0 by decide, if_true]
  omega
theorem Runs.off {h : Heap} {L lo : Nat} {q : Option Addr} {rs : List Value} {xss : List (List Value)} (R : Runs h lo rs xss) (hL : L < lo) (hq : ∀ a, q = some a → @LT.lt Nat _ a lo) : Runs (hideO (h.hide L) q) lo rs xss :=
  R.keeps fun b o hb e => rebase_get e (neA (by omega)) fun z => by have := hq b z; omega
theorem Runs.stays {h h' : Heap} {lo : Nat} {rs : List Value} {xss : List (List Value)} (R : Runs h lo rs xss) (k : h.StaysIn h') : Runs h' lo rs xss := R.keeps fun b o _ e => k b o e
theorem rangeIter_new (h : Heap) (o : Obj) (x n c : Int) : IsRangeIter ((h.push o).push { cls := .type "range_iterator", data := .fields #[rawInt x, rawInt n, rawInt c] }) (h.objs.size + 1) x n c := by
  have := Heap.get?_push_size (h.push o) (o := { cls := .type "range_iterator", data := .fields #[rawInt x, rawInt n, rawInt c] }) rfl
  rw [Heap.size_push] at this
  exact this
theorem srt_step {α : Type} (b : α → α → Bool) (l : List (List α)) (h : 1 < l.length) : srt b (pass b l) = srt b l := by
  conv => rhs; rw [srt]
  rw [dif_neg (by omega)]
theorem flatten_singles {α : Type} : ∀ l : List α, (l.map fun x => [x]).flatten = l
  | [] => rfl
  | a :: l => by simp [flatten_singles l]
theorem level_step {N len t : Nat} (h1 : 1 < len) (hlv : ∀ lv, N ≤ 2 ^ lv → t ≤ lv) (hb : 2 ^ t * (len - 1) ≤ N - 1) :
    (∀ lv, N ≤ 2 ^ lv → t + 1 ≤ lv) ∧ 2 ^ (t + 1) * ((len + 1) / 2 - 1) ≤ N - 1 := by
  have hp : 0 < 2 ^ t := Nat.two_pow_pos t
  have h2 : 2 ^ t * 1 ≤ 2 ^ t * (len - 1) := Nat.mul_le_mul_left _ (by omega)
  refine ⟨fun lv h => ?_, ?_⟩
  · rcases Nat.lt_or_ge t lv with h' | h'
    · exact h'
    · have := hlv lv h
      have e : t = lv := by omega
      subst e
      omega
  · have e : 2 ^ (t + 1) * ((len + 1) / 2 - 1) = 2 ^ t * (2 * ((len + 1) / 2 - 1)) := by rw [Nat.pow_succ, Nat.mul_assoc]
    rw [e]
    exact Nat.le_trans (Nat.mul_le_mul_left _ (by omega)) hb
end Mine

namespace Mine
local macro_rules | `(tactic| tb_start) => `(tactic| repeat' (first | exact List.forall_mem_nil _ | refine List.forall_mem_cons.mpr ⟨?_, ?_⟩ | exact Or.inl rfl | exact Or.inr ⟨by (dsimp only; decide), by k_mem⟩))
section
variable {prog : Program} {w : World} {p : Program} {loose : List Str} {mean : ExcName → Option Value} {mg mb : Str → Option Value}

theorem off_new {h₁ : Heap} {s : Shared} {q : Option Addr} {l : List (Str × Value)} (F0 : FL s.heap s.heap.objs.size h₁ l) : FL (hideO s.heap q) s.heap.objs.size h₁ l :=
  ⟨F0.lo, stays_trans (hideO_stays _ _) F0.keep, Heap.get?_none_of_le (by cases q <;> simp [hideO, Heap.hide_size])⟩

set_option maxHeartbeats 4000000 in
theorem sort_spec {A : Around} {s : Shared} {q : Option Addr} {J : Nat → Heap → Prop} {f : Addr} {b : Value → Value → Bool} {dom : Value → Prop} {d n : Nat} {a : Addr} {vs : List Value} {Q E : Value → Shared → Prop}
    (R : Room A (d + 2)) (G : GD p loose mean mg mb w (hideO s.heap q)) (hq : ∀ a, q = some a → a < s.heap.objs.size) (B : Beh prog w (hideO s.heap q) q J f b dom d)
    (hl : (hideO s.heap q).IsList a vs.toArray) (hv : ∀ v ∈ vs, dom v) (hsz : vs.length ≤ 1000) (hcap : n ≤ 1000) (hJ : J n s.heap)
    (h : ∀ h' tk c k, NewL q s.heap h' c (msort b vs) → (∀ lv, vs.length ≤ 2 ^ lv → k ≤ vs.length * lv) → J (n + k) h' → Q (.ref c) { s with heap := h', toks := tk }) :
    wpAny (model prog w) A (call (.ref 49) [.ref a, .ref f]) Q E s := by
  have G' := G.keeps (hideO_stays s.heap q)
  refine callDef (binds := [(Str.ofString "values", .ref a), (Str.ofString "is_behind", .ref f)]) R (G'.X 49 _ (by rfl)) rfl G'.T.nolimit (codeRec_of G'.X (by rfl)) rfl (by rfl) (by decide) (locs rfl) (of_decide_eq_true rfl) (fun h₁ A' E' R' F0 => ?_) rfl rfl rfl
  show wpAny _ _ (execs _ (envX (Str.ofString "merge_sort") _ s.heap.objs.size 49 (.ref 48) [])) _ _ _
  have F : FL (hideO s.heap q) s.heap.objs.size h₁ _ := off_new F0
  have hS : ∀ a, q = some a → (hideO s.heap q).get? a = none := fun a ha => hideO_self _ ha
  have hqL : q ≠ some s.heap.objs.size := fun e => absurd (hq _ e) (Nat.lt_irrefl _)
  have hL1 : @LT.lt Nat _ s.heap.objs.size h₁.objs.size := F.lo.lt
  have hla := isList_stays hl F.keep
  have hne : a ≠ h₁.objs.size := Nat.ne_of_lt (isList_lt hla)
  refine wpAny_execs_cons (lcA (env := envX (Str.ofString "merge_sort") _ s.heap.objs.size 49 (.ref 48) []) (cl := []) (S := hideO s.heap q) (L := s.heap.objs.size) (l := [(Str.ofString "values", .ref a), (Str.ofString "is_behind", .ref f)]) (by rfl) (by rfl) (by decide) (by rfl) (by decide) (nmL F (wpAny_pyIter_list hla ?_)) ?_)
  rotate_left
  · intro p hp
    simp only [List.mem_cons, List.not_mem_nil, or_false] at hp
    rcases hp with rfl | rfl <;> (dsimp only; decide)
  refine ⟨h₁.objs.size, _, _, _, _, _, fun N i ys h => Runs h N ys ((vs.take i).map fun v => [v]), h₁, rfl, ⟨fun C => Src.name (Walks.list R'.hh h₁.objs.size a hne vs.toArray) (by rfl) (by rfl), ?_, ⟨⟨_, Heap.get?_push_size _ rfl, rfl, rfl⟩, hla.push _⟩, ?_, stays_push (stays_refl _) _, ?_, ?_, ?_, ?_, ?_⟩, F, ?_⟩
  · simpa using Nat.le_trans hsz (by decide)
  · intro z hz
    have e : (h₁.push { cls := .type "list_iterator", data := .fields #[.ref a, .int 0 0] }).objs.size = h₁.objs.size + 1 := Heap.size_push ..
    have ha : @LT.lt Nat _ a h₁.objs.size := isList_lt hla
    simp only [List.mem_cons, List.not_mem_nil, or_false] at hz
    dsimp only
    rw [e]
    rcases hz with rfl | rfl <;> omega
  · dsimp only; rw [Heap.size_push]; omega
  · intro z hz
    rw [List.mem_singleton.mp hz]; exact fresh_none _
  · exact fun N h => Runs.nil h N
  · exact fun N i ys h h' K k => K.keeps k
  · rintro N C i ys bs s₃ E' hi ⟨v, hv', rfl⟩ hN hN' F₃ K₃
    refine tests_nil ?_
    rw [if_pos rfl]
    refine wpAny_List (args_cons (nmL F₃ (args_nil ⟨by show 1 ≤ sizeLine; decide, _, _, rfl, stays_push (stays_refl _) _, ?_⟩)))
    have hv'' : vs[i]? = some v := by simpa using hv'
    rw [List.take_add_one, hv'', List.map_append]
    exact (K₃.keeps fun b o _ e => Heap.get?_push_of_some _ e).snoc hN' (PlainList.new _ _)
  · intro D h₂ tk₂ rs N hk₂ hsz₂ hD P₂ K₂ hN F₂
    have hN' : s.heap.objs.size + 1 ≤ N := by dsimp only at hN; rw [Heap.size_push] at hN; omega
    have hsN : s.heap.objs.size ≤ h₂.objs.size := by omega
    have J₂ : J n h₂ := B.stable _ _ _ hJ fun z o hz e => hk₂ z o (fun y => hqL (y ▸ hz)) (F0.keep _ _ e)
    have K₂ : Runs h₂ (s.heap.objs.size + 1) rs (vs.map fun v => [v]) := by
      have := K₂.lower hN'
      simpa using this
    clear hk₂ hN
    refine wpAny_execs_cons (whileX (fun m s' => ∃ (t k : Nat) (xss : List (List Value)) (rs : List Value) (ρ : Nat) (h' : Heap) (tk : Nat), s' = { s with heap := h', toks := tk } ∧ m = xss.length ∧ srt b xss = msort b vs ∧ xss.flatten.Perm vs ∧
        FL (hideO s.heap q) s.heap.objs.size h' [(Str.ofString "runs", .ref ρ), (Str.ofString "values", .ref a), (Str.ofString "is_behind", .ref f)] ∧ s.heap.objs.size < ρ ∧ h'.PlainList ρ rs.toArray ∧ Runs h' (s.heap.objs.size + 1) rs xss ∧ J (n + k) h' ∧
        k ≤ vs.length * t ∧ (∀ lv, vs.length ≤ 2 ^ lv → t ≤ lv) ∧ 2 ^ t * (xss.length - 1) ≤ vs.length - 1 ∧ s.heap.objs.size ≤ h'.objs.size)
      (fun s' => ∃ (t k : Nat) (xss : List (List Value)) (rs : List Value) (ρ : Nat) (h' : Heap) (tk : Nat), s' = { s with heap := h', toks := tk } ∧ xss.length ≤ 1 ∧ srt b xss = msort b vs ∧
        FL (hideO s.heap q) s.heap.objs.size h' [(Str.ofString "runs", .ref ρ), (Str.ofString "values", .ref a), (Str.ofString "is_behind", .ref f)] ∧ s.heap.objs.size < ρ ∧ h'.PlainList ρ rs.toArray ∧ Runs h' (s.heap.objs.size + 1) rs xss ∧ J (n + k) h' ∧
        k ≤ vs.length * t ∧ (∀ lv, vs.length ≤ 2 ^ lv → t ≤ lv) ∧ s.heap.objs.size ≤ h'.objs.size)
      (fun m s1 E1 hI => ?_) vs.length ?_ ?_)
    · obtain ⟨t, k, xss, rs, ρ, h', tk, rfl, rfl, hsrt, hperm, F, hρ, P, K, Jk, hkt, hlv, hbd, hsz'⟩ := hI
      have G₁ := G.keeps F.keep
      have hlen : xss.length ≤ 1000 := by have := Nat.le_mul_of_pos_left (xss.length - 1) (Nat.two_pow_pos t); omega
      have hrl := K.len
      refine wpAny_isTrue_Compare1 (callB G₁ (by rfl) boot_len (args_cons (nmL F (args_nil (lenL P.isList (by omega) fun t1 tk' => wpAny_Constant_int (gt_int (wpAny_truthy_bool ?_)))))))
      by_cases h1 : 1 < rs.length
      · rw [if_pos (decide_eq_true (by omega))]
        obtain ⟨Fb, hSb, hqb⟩ := F.rebase q hS
        generalize hS₁ : hideO (h'.hide s.heap.objs.size) q = S₁ at Fb hSb hqb
        have hqN : ∀ a, q = some a → @LT.lt Nat _ a (s.heap.objs.size + 1) := fun a ha => Nat.lt_succ_of_lt (hq a ha)
        have Kb : Runs S₁ (s.heap.objs.size + 1) rs xss := by rw [← hS₁]; exact K.off (Nat.lt_succ_self _) hqN
        have Pb : S₁.PlainList ρ rs.toArray := by
          rw [← hS₁]
          exact plain_keeps P fun o e => rebase_get e (neA (by omega)) fun z => by have := hqN ρ z; omega
        have Gb := G.keeps hSb
        have Bb := B.mono hSb
        refine wpAny_execs_cons (wpAny_Assign_Name (wpAny_List (args_nil ⟨by decide, ?_⟩)))
        refine stL (l' := [(Str.ofString "later", .ref h'.objs.size), (Str.ofString "runs", .ref ρ), (Str.ofString "values", .ref a), (Str.ofString "is_behind", .ref f)]) (Fb.push _) (fun h₃ F₃ s₃ => ?_)
        have hcL : @Ne Nat h'.objs.size s.heap.objs.size := by have : @LT.lt Nat _ s.heap.objs.size h'.objs.size := F.lo.lt; omega
        have hc0 : S₁.get? h'.objs.size = none := by rw [← hS₁]; cases e : (hideO (h'.hide s.heap.objs.size) q).get? h'.objs.size with
          | none => rfl
          | some o => have := ltS (Heap.of_hide (hideO_stays _ _ _ _ e)); omega
        have hqc : q ≠ some h'.objs.size := fun e => by have := hqN _ e; have : @LT.lt Nat _ s.heap.objs.size h'.objs.size := F.lo.lt; omega
        have P₃ : h₃.PlainList h'.objs.size ([] : List Value).toArray := PlainList.but (PlainList.new h' []) s₃ hcL
        have J₃ : J (n + k) h₃ := B.but (B.gro Jk (Gro.of_stays (stays_push (stays_refl _) _) (by rw [Heap.size_push]; omega))) s₃ hqL
        have z₃ : h₃.objs.size = h'.objs.size + 1 := by rw [s₃.1]; dsimp only; rw [Heap.size_push]
        clear Jk
        have G₃ := Gb.keeps F₃.keep
        refine wpAny_execs_cons (forW (callTy G₃ (by rfl) boot_range (args_cons (wpAny_Constant_int (args_cons (wpAny_BinOp (callB (Gb.keeps F₃.keep) (by rfl) boot_len (args_cons (nmL F₃ (args_nil (lenL (isList_stays Pb.isList F₃.keep) (by omega) fun t2 tk'' => wpAny_Constant_int (sub_int (args_cons (wpAny_Constant_int (args_nil (call_range_3 (by decide) ?_))))))))))))))))
        dsimp only
        have hr2 := range2_size (len := rs.length) (by omega)
        refine wpAny_pyIter_range (IsRange.new ..) (range2_small (by omega) (by omega)) ?_
        dsimp only
        rw [hr2, Heap.size_push]
        have W := Walks.range (prog := prog) (w := w) R'.hh (h₃.objs.size + 1) 0 2 (rs.length / 2)
        refine ⟨h₃.objs.size + 1, _, _, _, _, _, fun i s' => ∃ (zs : List Value) (zss : List (List Value)) (k' : Nat) (h : Heap) (tk : Nat), s' = { s with heap := h, toks := tk } ∧
          FL S₁ s.heap.objs.size h [(Str.ofString "later", .ref h'.objs.size), (Str.ofString "runs", .ref ρ), (Str.ofString "values", .ref a), (Str.ofString "is_behind", .ref f)] ∧
          h.PlainList h'.objs.size zs.toArray ∧ Runs h (h₃.objs.size + 2) zs zss ∧ zss ++ pass b (xss.drop (2 * i)) = pass b xss ∧ zss.length = i ∧ J (n + k + k') h ∧ k' ≤ zss.flatten.length ∧
          IsRangeIter h (h₃.objs.size + 1) (0 + (i : Nat) * 2) (((rs.length / 2 : Nat) : Int) - (i : Nat)) 2 ∧ h₃.objs.size + 2 ≤ h.objs.size, rfl, W, ?_, ?_, ?_, ?_⟩
        · rintro i s' ⟨_, _, _, _, _, rfl, _, _, _, _, _, _, _, hI, _⟩; exact hI
        · refine ⟨[], [], 0, _, _, rfl, (F₃.push _).push _, (plain_keeps P₃ fun o e => Heap.get?_push_of_some _ (Heap.get?_push_of_some _ e)), Runs.nil _ _, rfl, rfl, B.gro J₃ (Gro.of_stays (stays_push (stays_push (stays_refl _) _) _) (by rw [Heap.size_push, Heap.size_push]; omega)), Nat.zero_le _, ?_, ?_⟩
          · simpa using rangeIter_new h₃ _ 0 _ 2
          · rw [Heap.size_push, Heap.size_push]; omega
        · rintro i s' v h₄ tk₄ E₄ hi ⟨zs, zss, k', h, tk, rfl, F₄, P₄, K₄, hz, hzl, J₄, hk', hI, hsz₄⟩ ⟨t₄, rfl⟩ hI' hk₄ hsz₄'
          have hw : ∀ b : Nat, b ≠ h₃.objs.size + 1 → b ∉ [h₃.objs.size + 1] := fun b hb z => hb (List.mem_singleton.mp z)
          have hLs : @LT.lt Nat _ s.heap.objs.size h'.objs.size := F.lo.lt
          have hcI : @Ne Nat h'.objs.size (h₃.objs.size + 1) := by omega
          have S₃ : ∀ z : Nat, h₃.objs.size ≤ z → S₁.get? z = none := fun z hz => by
            cases e : S₁.get? z with
            | none => rfl
            | some o => have := ltS (F₃.keep _ _ e); omega
          have F₅ : FL S₁ s.heap.objs.size h₄ _ := F₄.to fun b o hb e => hk₄ b o (hw b fun z => by
            rcases hb with rfl | hb
            · omega
            · rw [S₃ b (by omega)] at hb; cases hb) e
          have P₅ : h₄.PlainList h'.objs.size zs.toArray := plain_keeps P₄ fun o e => hk₄ _ o (hw _ hcI) e
          have K₅ : Runs h₄ (h₃.objs.size + 2) zs zss := K₄.keeps fun b o hb e => hk₄ b o (hw b (by omega)) e
          have J₅ : J (n + k + k') h₄ := B.stable _ _ _ J₄ fun z o hz e => hk₄ z o (hw z fun y => by have := hqN z hz; omega) e
          refine stL (l' := [(Str.ofString "at", .int (0 + (i : Nat) * 2) t₄), (Str.ofString "later", .ref h'.objs.size), (Str.ofString "runs", .ref ρ), (Str.ofString "values", .ref a), (Str.ofString "is_behind", .ref f)]) F₅ (fun h₆ F₆ s₆ => ?_)
          have P₆ := PlainList.but P₅ s₆ hcL
          have K₆ : Runs h₆ (h₃.objs.size + 2) zs zss := K₅.keeps fun b o hb e => (s₆.2 b (neA (by omega))).trans e
          have J₆ := B.but J₅ s₆ hqL
          have I₆ : IsRangeIter h₆ (h₃.objs.size + 1) (0 + ((i + 1 : Nat) : Int) * 2) (((rs.length / 2 : Nat) : Int) - ((i + 1 : Nat) : Int)) 2 := (s₆.2 _ (neA (by omega))).trans hI'
          have z₆ : h₃.objs.size + 2 ≤ h₆.objs.size := by rw [s₆.1]; exact Nat.le_trans hsz₄ hsz₄'
          obtain ⟨r0, e0, hr0, p0⟩ := Kb.each (2 * i) rs[2 * i] xss[2 * i] (by simp) (by simp)
          obtain ⟨r1, e1, hr1, p1⟩ := Kb.each (2 * i + 1) rs[2 * i + 1] xss[2 * i + 1] (by simp) (by simp)
          have hd := pass_drop b xss i (by omega)
          have hml := (mrg_perm b xss[2 * i] xss[2 * i + 1]).length_eq
          have hfl : (mrg b xss[2 * i] xss[2 * i + 1]).length ≤ vs.length := by
            have q1 := congrArg (fun l => l.flatten.length) hz
            rw [hd] at q1
            simp only [List.flatten_append, List.flatten_cons, List.length_append] at q1
            have q2 := ((pass_perm b xss).trans hperm).length_eq
            omega
          rw [List.length_append] at hml
          have hdom : ∀ (j : Nat) (hj : j < xss.length), ∀ v ∈ xss[j], dom v := fun j hj v hvj => hv v (hperm.mem_iff.mp (List.mem_flatten.mpr ⟨xss[j], List.getElem_mem .., hvj⟩))
          have G₆ := Gb.keeps F₆.keep
          have Pr₆ := isList_stays Pb.isList F₆.keep
          have toN : ((0 : Int) + (i : Nat) * 2).toNat = 2 * i := by omega
          have toN1 : ((0 : Int) + (i : Nat) * 2 + 1).toNat = 2 * i + 1 := by omega
          refine wpAny_execs_cons (appendS F₆ P₆ (callG G₆ (by rfl) (by rfl) rfl (args_cons (Subscript_ (nmL F₆ (nmL F₆ (item_listL (k := 0 + (i : Nat) * 2) Pr₆ (by omega) (by omega) (by rw [toN]; exact (List.getElem?_eq_getElem (by omega)).trans (congrArg some e0))
            (args_cons (Subscript_ (nmL F₆ (wpAny_BinOp (nmL F₆ (wpAny_Constant_int (add_int (item_listL (k := 0 + (i : Nat) * 2 + 1) Pr₆ (by omega) (by omega) (by rw [toN1]; exact (List.getElem?_eq_getElem (by omega)).trans (congrArg some e1))
              (args_cons (nmL F₆ (args_nil ⟨G₆, ?_⟩))))))))))))))))))
          have hkq : S₁.StaysIn (hideO h₆ q) := stays_hideO F₆.keep hqb
          have hk10 : k ≤ 1000 * 10 := Nat.le_trans hkt (Nat.mul_le_mul hsz (hlv 10 (Nat.le_trans hsz (by decide))))
          have hkf : k' ≤ vs.length := by
            have q1 := congrArg (fun l => l.flatten.length) hz
            simp only [List.flatten_append, List.length_append] at q1
            have q2 := ((pass_perm b xss).trans hperm).length_eq
            omega
          refine merged_spec (J := J) (n := n + k + k') (b := b) (dom := dom) (d := d) R' (Gb.keeps hkq) (fun z hz => by have := hqN z hz; show @LT.lt Nat _ z h₆.objs.size; omega) (Bb.mono hkq) (isList_stays p0.isList hkq) (isList_stays p1.isList hkq) (hdom _ (by omega)) (hdom _ (by omega)) (by omega) (by omega) J₆ fun h₇ tk₇ c₇ k₇ n₇ hk₇ J₇ => ?_
          refine ⟨_, PlainList.gro P₆ n₇.toGro hqc, (by have := K₄.len; rw [List.size_toArray]; exact Nat.le_trans (by omega : zs.length ≤ 1000) (by decide)), fun h₈ P₈ s₈ => ?_⟩
          have F₇ := F₆.gro n₇.toGro hqL hqb
          have c7 : h₃.objs.size + 2 ≤ c₇ := Nat.le_trans z₆ n₇.ge
          have hq8 : q ≠ some h'.objs.size := hqc
          refine wpAny_execs_nil ⟨rfl, zs ++ [.ref c₇], zss ++ [mrg b xss[2 * i] xss[2 * i + 1]], k' + k₇, h₈, _, rfl, ?_, by simpa using P₈, ?_, ?_, ?_, ?_, ?_, ?_, ?_⟩
          · exact (F₇.but s₈ hcL hc0).sub fun p hp => .tail _ hp
          · refine Runs.snoc (K₆.keeps fun b o hb e => (s₈.2 b (neA (by omega))).trans (n₇.stays b o (hideO_get e fun z => by have := hqN b z; omega))) c7 (PlainList.but n₇.lst s₈ (neA (by omega)))
          · rw [← hz, hd, List.append_assoc]; rfl
          · simp [hzl]
          · have := B.but J₇ s₈ hq8; rwa [Nat.add_assoc (n + k)] at this
          · simp only [List.flatten_append, List.flatten_cons, List.flatten_nil, List.length_append, List.length_nil]; omega
          · exact (s₈.2 _ (neA (by omega))).trans (n₇.stays _ _ (hideO_get I₆ fun z => by have := hqN _ z; omega))
          · rw [s₈.1]; exact Nat.le_trans z₆ n₇.size
        · rintro s' h₄ tk₄ ⟨zs, zss, k', h, tk, rfl, F₄, P₄, K₄, hz, hzl, J₄, hk', hI, hsz₄⟩ hk₄ hsz₄'
          have hw : ∀ b : Nat, b ≠ h₃.objs.size + 1 → b ∉ [h₃.objs.size + 1] := fun b hb z => hb (List.mem_singleton.mp z)
          have hLs : @LT.lt Nat _ s.heap.objs.size h'.objs.size := F.lo.lt
          have S₃ : ∀ z : Nat, h₃.objs.size ≤ z → S₁.get? z = none := fun z hz => by
            cases e : S₁.get? z with
            | none => rfl
            | some o => have := ltS (F₃.keep _ _ e); omega
          have F₅ : FL S₁ s.heap.objs.size h₄ _ := F₄.to fun b o hb e => hk₄ b o (hw b fun z => by
            rcases hb with rfl | hb
            · omega
            · rw [S₃ b (by omega)] at hb; cases hb) e
          have P₅ : h₄.PlainList h'.objs.size zs.toArray := plain_keeps P₄ fun o e => hk₄ _ o (hw _ (by omega)) e
          have K₅' : Runs h₄ (h₃.objs.size + 2) zs zss := K₄.keeps fun b o hb e => hk₄ b o (hw b (by omega)) e
          have K₅ : Runs h₄ (s.heap.objs.size + 1) zs zss := K₅'.lower (by omega)
          have J₅ : J (n + k + k') h₄ := B.stable _ _ _ J₄ fun z o hz e => hk₄ z o (hw z fun y => by have := hqN z hz; omega) e
          have hz4 : h₃.objs.size + 2 ≤ h₄.objs.size := Nat.le_trans hsz₄ hsz₄'
          have hkf : k' ≤ vs.length := by
            have q1 := congrArg (fun l => l.flatten.length) hz
            simp only [List.flatten_append, List.length_append] at q1
            have q2 := ((pass_perm b xss).trans hperm).length_eq
            omega
          refine wpAny_execs_cons (wpAny_If (wpAny_isTrue_Compare1 (wpAny_BinOp (callB (Gb.keeps F₅.keep) (by rfl) boot_len (args_cons (nmL F₅ (args_nil (lenL (isList_stays Pb.isList F₅.keep) (by omega) fun t5 tk5 => wpAny_Constant_int (mod_int' (by decide) (wpAny_Constant_int (eq_int (wpAny_truthy_bool ?_)))))))))))) 
          by_cases hodd : rs.length % 2 = 1
          · rw [if_pos (by rw [beq_iff_eq, Int.fmod_eq_emod_of_nonneg _ (by decide)]; omega)]
            obtain ⟨rL, eL, hrL, pL⟩ := Kb.each (rs.length - 1) rs[rs.length - 1] xss[rs.length - 1] (by simp) (by simp)
            have hlast : rs = rs.dropLast ++ [Value.ref rL] := by
              rw [← eL, ← List.getLast_eq_getElem (by intro z; rw [z] at h1; simp at h1)]
              exact (List.dropLast_concat_getLast _).symm
            have hdl : xss.drop (2 * (rs.length / 2)) = [xss[rs.length - 1]] := by
              rw [show 2 * (rs.length / 2) = rs.length - 1 by omega, drop_cons (by omega), List.drop_eq_nil_of_le (by omega)]
            rw [hdl, show pass b [xss[rs.length - 1]] = [xss[rs.length - 1]] from by simp [pass]] at hz
            have hRL : h₄.IsList ρ (rs.dropLast ++ [Value.ref rL]).toArray := by rw [← hlast]; exact isList_stays Pb.isList F₅.keep
            refine wpAny_execs_cons (appendS F₅ P₅ (Subscript_ (nmL F₅ (wpAny_UnaryOp (wpAny_Constant_int (neg_int (item_last hRL ⟨_, P₅, ?_, fun h₆ P₆ s₆ => wpAny_execs_nil ?_⟩)))))))
            · have := K₄.len; rw [List.size_toArray]; exact Nat.le_trans (by omega : zs.length ≤ 1000) (by decide)
            have F₆ := F₅.but s₆ hcL hc0
            have J₆ := B.but J₅ s₆ hqc
            have K₆ : Runs h₆ (s.heap.objs.size + 1) (zs ++ [Value.ref rL]) (pass b xss) := by
              rw [← hz]
              exact Runs.snoc (Runs.lower (K₅'.keeps fun b o hb e => (s₆.2 b (neA (by omega))).trans e) (by omega)) hrL (plain_keeps pL fun o e => F₆.keep _ _ e)
            have P₆ : h₆.PlainList h'.objs.size (zs ++ [Value.ref rL]).toArray := by simpa using P₆
            have z₆ : h₆.objs.size = h₄.objs.size := s₆.1
            generalize zs ++ [Value.ref rL] = ZS at K₆ P₆
            refine wpAny_execs_cons (wpAny_Assign_Name (nmL F₆ (stL (l' := [(Str.ofString "runs", .ref h'.objs.size), (Str.ofString "values", .ref a), (Str.ofString "is_behind", .ref f)]) F₆ (fun h₇ F₇ s₇ => wpAny_execs_nil ?_))))
            obtain ⟨lv1, lv2⟩ := level_step (by omega : 1 < xss.length) hlv hbd
            have pl := pass_length b xss
            have hkk : k + k' ≤ vs.length * (t + 1) := by rw [Nat.mul_succ]; omega
            refine ⟨(pass b xss).length, by omega, t + 1, k + k', pass b xss, ZS, h'.objs.size, h₇, _, rfl, rfl, (srt_step b xss (by omega)).trans hsrt, (pass_perm b xss).trans hperm, ⟨F₇.lo, stays_trans hSb F₇.keep, F.off⟩, hLs, PlainList.but P₆ s₇ hcL, K₆.keeps fun b o hb e => (s₇.2 b (neA (by omega))).trans e, ?_, hkk, lv1, by rw [pl]; exact lv2, ?_⟩
            · have := B.but J₆ s₇ hqL; rwa [Nat.add_assoc] at this
            · rw [s₇.1]; dsimp only; omega
          · rw [if_neg (by rw [beq_iff_eq, Int.fmod_eq_emod_of_nonneg _ (by decide)]; omega)]
            have hdl : xss.drop (2 * (rs.length / 2)) = [] := List.drop_eq_nil_of_le (by omega)
            rw [hdl, show pass b ([] : List (List Value)) = [] from by simp [pass], List.append_nil] at hz
            rw [hz] at K₅
            refine wpAny_execs_nil ?_
            have F₆ := F₅
            have P₆ := P₅
            have K₆ := K₅
            have J₆ := J₅
            refine wpAny_execs_cons (wpAny_Assign_Name (nmL F₆ (stL (l' := [(Str.ofString "runs", .ref h'.objs.size), (Str.ofString "values", .ref a), (Str.ofString "is_behind", .ref f)]) F₆ (fun h₇ F₇ s₇ => wpAny_execs_nil ?_))))
            obtain ⟨lv1, lv2⟩ := level_step (by omega : 1 < xss.length) hlv hbd
            have pl := pass_length b xss
            have hkk : k + k' ≤ vs.length * (t + 1) := by rw [Nat.mul_succ]; omega
            refine ⟨(pass b xss).length, by omega, t + 1, k + k', pass b xss, zs, h'.objs.size, h₇, _, rfl, rfl, (srt_step b xss (by omega)).trans hsrt, (pass_perm b xss).trans hperm, ⟨F₇.lo, stays_trans hSb F₇.keep, F.off⟩, hLs, PlainList.but P₆ s₇ hcL, K₆.keeps fun b o hb e => (s₇.2 b (neA (by omega))).trans e, ?_, hkk, lv1, by rw [pl]; exact lv2, ?_⟩
            · have := B.but J₆ s₇ hqL; rwa [Nat.add_assoc] at this
            · rw [s₇.1]; dsimp only; omega
      · rw [if_neg (by rw [decide_eq_true_eq]; omega)]
        exact ⟨t, k, xss, rs, ρ, h', _, rfl, by omega, hsrt, F, hρ, P, K, Jk, hkt, hlv, hsz'⟩
    · exact ⟨0, 0, vs.map fun v => [v], rs, D, h₂, _, rfl, by simp, rfl, by rw [flatten_singles], F₂, by omega, P₂, K₂, J₂, by simp, by simp, by simp, hsN⟩
    · rintro s' ⟨t, k, xss, rs, ρ, h', tk, rfl, hxl, hsrt, F, hρ, P, K, Jk, hkt, hlv, hsz'⟩
      have G₁ := G.keeps F.keep
      have hrl := K.len
      have hkk : ∀ lv, vs.length ≤ 2 ^ lv → k ≤ vs.length * lv := fun lv hl => Nat.le_trans hkt (Nat.mul_le_mul_left _ (hlv lv hl))
      refine wpAny_execs_cons (wpAny_Return_some (wpAny_IfExp (wpAny_isTrue_Compare1 (callB G₁ (by rfl) boot_len (args_cons (nmL F (args_nil (lenL P.isList (by omega) fun t1 tk' => wpAny_Constant_int (eq_int (wpAny_truthy_bool ?_)))))))))) 
      match xss, hxl, hrl, hsrt with
      | [], _, hrl, hsrt =>
        rw [if_neg (by rw [beq_iff_eq]; simp at hrl; simp [hrl])]
        refine wpAny_List (args_nil ⟨by decide, ?_⟩)
        refine h _ _ _ k ⟨⟨stays_push F.keep _, Nat.le_trans hsz' (NewL.pushed h' []).size⟩, hsz', ?_⟩ hkk (B.gro Jk (NewL.pushed h' []).toGro)
        rw [← hsrt, srt, dif_pos (by simp)]
        exact PlainList.new h' []
      | [x], _, hrl, hsrt =>
        have hr1 : rs.length = 1 := hrl
        rw [if_pos (by rw [hr1]; rfl)]
        obtain ⟨c, ec, hc, pc⟩ := K.each 0 rs[0] x (by simp) (by simp)
        refine Subscript_ (nmL F (wpAny_Constant_int (item_listL (k := 0) P.isList (by decide) (by decide) ((List.getElem?_eq_getElem (by omega)).trans (congrArg some ec)) ?_)))
        refine h _ _ c k ⟨⟨F.keep, hsz'⟩, by omega, ?_⟩ hkk Jk
        rw [← hsrt, srt, dif_pos (by simp)]
        exact pc
end
end Mine

namespace Mine
local macro_rules | `(tactic| tb_start) => `(tactic| repeat' (first | exact List.forall_mem_nil _ | refine List.forall_mem_cons.mpr ⟨?_, ?_⟩ | exact Or.inl rfl | exact Or.inr ⟨by (dsimp only; decide), by k_mem⟩))
/-! ## the plain sort: one by one behind all that are not greater -/
def ins {α : Type} (le : α → α → Bool) (p : α) (l : List α) : List α := l.takeWhile (fun x => le x p) ++ [p] ++ l.dropWhile (fun x => le x p)
def plainL {α : Type} (le : α → α → Bool) (vs : List α) : List α := vs.foldl (fun l p => ins le p l) []
theorem ins_perm {α : Type} (le : α → α → Bool) (p : α) (l : List α) : (ins le p l).Perm (p :: l) := by
  unfold ins
  rw [List.append_assoc]
  refine List.perm_middle.trans (List.Perm.cons p ?_)
  exact List.Perm.of_eq List.takeWhile_append_dropWhile
theorem plainL_snoc {α : Type} (le : α → α → Bool) (vs : List α) (p : α) : plainL le (vs ++ [p]) = ins le p (plainL le vs) := by
  unfold plainL; rw [List.foldl_append]; rfl
theorem foldl_ins_perm {α : Type} (le : α → α → Bool) : ∀ (vs l : List α), (vs.foldl (fun l p => ins le p l) l).Perm (l ++ vs)
  | [], l => by simp
  | p :: vs, l => by
    rw [List.foldl_cons]
    refine (foldl_ins_perm le vs _).trans ?_
    exact ((ins_perm le p l).append_right vs).trans (List.perm_middle (l₁ := l)).symm
theorem plainL_perm {α : Type} (le : α → α → Bool) (vs : List α) : (plainL le vs).Perm vs := by
  have := foldl_ins_perm le vs []
  unfold plainL
  simpa using this
theorem take_while_at {α : Type} (q : α → Bool) : ∀ (l : List α) (j : Nat), j ≤ l.length → (∀ (i : Nat) (h : i < l.length), i < j → q l[i] = true) → (∀ h : j < l.length, q l[j] = false) → l.take j = l.takeWhile q ∧ l.drop j = l.dropWhile q
  | [], j, hj, _, _ => by simp
  | x :: l, 0, _, _, h => by
    have := h (by simp)
    simp only [List.getElem_cons_zero] at this
    simp [this]
  | x :: l, j + 1, hj, h1, h2 => by
    have hx := h1 0 (by simp) (by omega)
    simp only [List.getElem_cons_zero] at hx
    obtain ⟨e1, e2⟩ := take_while_at q l j (by simpa using hj) (fun i hi hij => by have := h1 (i + 1) (by simpa using hi) (by omega); rwa [List.getElem_cons_succ] at this) (fun h => by have := h2 (by simpa using h); rwa [List.getElem_cons_succ] at this)
    simp [hx, e1, e2]

/-- x <= y of two values of the heap S -/
def LeOk (prog : Program) (w : World) (S : Heap) (x y : Value) (r : Bool) : Prop :=
  ∀ (A : Around) (s : Shared) (Q E : Value → Shared → Prop), Room A 8 → S.StaysIn s.heap → (∀ tk, Q (.bool r) { s with toks := tk }) → wpAny (model prog w) A (compareOp .LtE x y) Q E s
theorem LeOk.mono {prog : Program} {w : World} {S S' : Heap} {x y : Value} {r : Bool} (h : LeOk prog w S x y r) (k : S.StaysIn S') : LeOk prog w S' x y r :=
  fun A s Q E R hS => h A s Q E R (stays_trans k hS)
/-- a value whose place 0 is its key -/
def Keyed (S : Heap) (key : Value → Value) (v : Value) : Prop := ∃ (t : Addr) (its : List Value), v = .ref t ∧ IsTup S t its.toArray ∧ its[0]? = some (key v)
theorem isTup_stays {h h' : Heap} {a : Addr} {its : Array Value} (x : IsTup h a its) (k : h.StaysIn h') : IsTup h' a its := x.keeps k
theorem Keyed.mono {S S' : Heap} {key : Value → Value} {v : Value} (x : Keyed S key v) (k : S.StaysIn S') : Keyed S' key v := let ⟨t, its, e, h, q⟩ := x; ⟨t, its, e, isTup_stays h k, q⟩

section
variable {prog : Program} {w : World} {p : Program} {loose : List Str} {mean : ExcName → Option Value} {mg mb : Str → Option Value}
/-- place 0 of a value that stands at hand -/
theorem item0 {A : Around} {E : Value → Shared → Prop} {s : Shared} {value slice : Expr} {S : Heap} {key : Value → Value} {v : Value} {u : Tok} {Q : Value → Shared → Prop} (x : Keyed S key v) (k : S.StaysIn s.heap) (h : Q (key v) s)
    (hs : ∀ t : Addr, subscripted slice false (.ref t) (.int 0 u) = operate [.ref t, .int 0 u] (getItem (.ref t) (.int 0 u)) := by intro _; with_unfolding_all rfl) :
    wpAny (model prog w) A (subscriptTail value slice v (.int 0 u)) Q E s := by
  obtain ⟨t, its, rfl, ht, hk⟩ := x
  have hpos : 0 < its.length := by
    cases its with
    | nil => cases hk
    | cons _ _ => exact Nat.succ_pos _
  refine item_tupleT (j := 0) (isTup_stays ht k) (by decide) (by decide) ?_ hk h (hs t)
  unfold seqIndex?
  simp [hpos]

set_option maxHeartbeats 4000000 in
theorem plain_spec {A : Around} {s : Shared} {key : Value → Value} {le : Value → Value → Bool} {a : Addr} {vs : List Value} {Q E : Value → Shared → Prop}
    (R : Room A 9) (G : GD p loose mean mg mb w s.heap) (hl : s.heap.IsList a vs.toArray) (hsz : vs.length ≤ 1000)
    (hk : ∀ v ∈ vs, Keyed s.heap key v) (hle : ∀ v ∈ vs, ∀ u ∈ vs, LeOk prog w s.heap (key v) (key u) (le v u))
    (h : ∀ h' tk c, NewL none s.heap h' c (plainL le vs) → Q (.ref c) { s with heap := h', toks := tk }) :
    wpAny (model prog w) A (call (.ref 82) [.ref a]) Q E s := by
  refine callDef (binds := [(Str.ofString "pairs", .ref a)]) R (G.X 82 _ (by rfl)) rfl G.T.nolimit (codeRec_of G.X (by rfl)) rfl (by rfl) (by decide) (locs rfl) (of_decide_eq_true rfl) (fun h₁ A' E' R' F => ?_) rfl rfl rfl
  show wpAny _ _ (execs _ (envX (Str.ofString "_law_plain") _ s.heap.objs.size 82 (.ref 81) [])) _ _ _
  have hL1 : @LT.lt Nat _ s.heap.objs.size h₁.objs.size := F.lo.lt
  refine wpAny_execs_cons (wpAny_Assign_Name (wpAny_List (args_nil ⟨by decide, ?_⟩)))
  refine stL (l' := [(Str.ofString "found", .ref h₁.objs.size), (Str.ofString "pairs", .ref a)]) (F.push _) (fun h₂ F₂ s₂ => ?_)
  have P₂ : h₂.PlainList h₁.objs.size ([] : List Value).toArray := PlainList.but (PlainList.new h₁ []) s₂ (neA (by omega))
  have z₂ : h₂.objs.size = h₁.objs.size + 1 := by rw [s₂.1]; dsimp only; rw [Heap.size_push]
  have hne : a ≠ h₂.objs.size := Nat.ne_of_lt (isList_lt (isList_stays hl F₂.keep))
  have hal : @LT.lt Nat _ a s.heap.objs.size := isList_lt hl
  have W := Walks.list (prog := prog) (w := w) R'.hh h₂.objs.size a hne vs.toArray
  refine wpAny_execs_cons (forW (nmL F₂ (wpAny_pyIter_list (isList_stays hl F₂.keep) ⟨h₂.objs.size, _, _, _, _, _, fun i s' => ∃ (c : Nat) (h' : Heap) (tk : Nat) (l : List (Str × Value)), s' = { s with heap := h', toks := tk } ∧
      FL s.heap s.heap.objs.size h' ((Str.ofString "found", .ref c) :: (Str.ofString "pairs", .ref a) :: l) ∧ c ≠ s.heap.objs.size ∧ c ≠ h₂.objs.size ∧ s.heap.objs.size ≤ c ∧ h'.PlainList c (plainL le (vs.take i)).toArray ∧ h'.IsListIter h₂.objs.size a i ∧ h₂.objs.size < h'.objs.size, rfl, W, ?_, ?_, ?_, ?_⟩)))
  · rintro i s' ⟨c, h', tk, l, rfl, F₃, _, _, _, _, hI, _⟩
    exact ⟨hI, isList_stays hl F₃.keep⟩
  · exact ⟨h₁.objs.size, _, _, [], rfl, F₂.push _, by omega, by omega, by omega, plain_keeps P₂ fun o e => Heap.get?_push_of_some _ e, ⟨_, Heap.get?_push_size _ rfl, rfl, rfl⟩, by dsimp only; rw [Heap.size_push]; omega⟩
  · rintro i s' v h₃ tk₃ E₃ hi ⟨c, h', tk, l, rfl, F₃, hcL, hcI, hcs, P₃, hI₃, hsz₃⟩ hv ⟨hI₄, _⟩ hk₄ hsz₄
    have hv' : vs[i]? = some v := by simpa using hv
    dsimp only at hsz₄
    have hil : i < vs.length := by simpa using hi
    have hvm : v ∈ vs := List.mem_of_getElem? hv'
    have hw : ∀ b : Nat, b ≠ h₂.objs.size → b ∉ [h₂.objs.size] := fun b hb z => hb (List.mem_singleton.mp z)
    have F₄ : FL s.heap s.heap.objs.size h₃ _ := F₃.to fun b o hb e => hk₄ b o (hw b fun z => by
      rcases hb with rfl | hb
      · omega
      · have hb' := Option.isSome_iff_exists.mp hb
        obtain ⟨o', e'⟩ := hb'
        have := ltS e'
        omega) e
    have P₄ : h₃.PlainList c (plainL le (vs.take i)).toArray := plain_keeps P₃ fun o e => hk₄ _ o (hw _ hcI) e
    have hpl := (plainL_perm le (vs.take i)).length_eq
    have hpm : ∀ u ∈ plainL le (vs.take i), u ∈ vs := fun u hu => List.mem_of_mem_take ((plainL_perm le (vs.take i)).mem_iff.mp hu)
    have htl : (vs.take i).length ≤ 1000 := by simp; omega
    have hsn : plainL le (vs.take (i + 1)) = ins le v (plainL le (vs.take i)) := by
      rw [List.take_add_one, hv']
      exact plainL_snoc le _ v
    obtain ⟨fv, hfv⟩ : ∃ fv, fv = plainL le (vs.take i) := ⟨_, rfl⟩
    rw [← hfv] at P₄ hpl hpm hsn
    refine stL (l' := [(Str.ofString "pair", v), (Str.ofString "found", .ref c), (Str.ofString "pairs", .ref a)]) F₄ (fun h₅ F₅ s₅ => ?_)
    have P₅ := PlainList.but P₄ s₅ (neA hcL)
    refine wpAny_execs_cons (wpAny_Assign_Name (wpAny_Constant_int ?_))
    refine stL (l' := [(Str.ofString "at", .int 0 _), (Str.ofString "pair", v), (Str.ofString "found", .ref c), (Str.ofString "pairs", .ref a)]) F₅ (fun h₆ F₆ s₆ => ?_)
    have P₆ := PlainList.but P₅ s₆ (neA hcL)
    refine wpAny_execs_cons (whileX (fun m s' => ∃ (j : Nat) (h₇ : Heap) (tk : Nat) (t : Tok), s' = { s with heap := h₇, toks := tk } ∧ m = fv.length - j ∧ j ≤ fv.length ∧ (∀ (i : Nat) (h : i < fv.length), i < j → le fv[i] v = true) ∧
        FL s.heap s.heap.objs.size h₇ [(Str.ofString "at", .int j t), (Str.ofString "pair", v), (Str.ofString "found", .ref c), (Str.ofString "pairs", .ref a)] ∧ Heap.SameBut s.heap.objs.size h₆ h₇)
      (fun s' => ∃ (j : Nat) (h₇ : Heap) (tk : Nat) (t : Tok), s' = { s with heap := h₇, toks := tk } ∧ j ≤ fv.length ∧ (∀ (i : Nat) (h : i < fv.length), i < j → le fv[i] v = true) ∧ (∀ h : j < fv.length, le fv[j] v = false) ∧
        FL s.heap s.heap.objs.size h₇ [(Str.ofString "at", .int j t), (Str.ofString "pair", v), (Str.ofString "found", .ref c), (Str.ofString "pairs", .ref a)] ∧ Heap.SameBut s.heap.objs.size h₆ h₇)
      (fun m s1 E1 hI => ?_) fv.length ?_ ?_)
    · obtain ⟨j, h₇, tk₇, t, rfl, rfl, hj, hall, F₇, s₇⟩ := hI
      have P₇ := PlainList.but P₆ s₇ (neA hcL)
      refine wpAny_isTrue_BoolOp (wpAny_allTrue_And_cons (wpAny_isTrue_Compare1 (nmL F₇ (callB (G.keeps F₇.keep) (by rfl) boot_len (args_cons (nmL F₇ (args_nil (lenL P₇.isList (by omega) fun t1 tk' => lt_int (wpAny_truthy_bool ?_)))))))))
      by_cases hj' : j < fv.length
      · rw [if_pos (decide_eq_true (by omega))]
        refine wpAny_allTrue_And_cons (wpAny_isTrue_Compare1 (Subscript_ (Subscript_ (nmL F₇ (nmL F₇ (item_listL (k := (j : Int)) P₇.isList (by omega) (by omega) (by simpa using List.getElem?_eq_getElem hj') (wpAny_Constant_int (item0 (hk _ (hpm _ (List.getElem_mem hj'))) F₇.keep (Subscript_ (nmL F₇ (wpAny_Constant_int (item0 (hk _ hvm) F₇.keep ?_))))))))))))
        refine hle _ (hpm _ (List.getElem_mem hj')) _ hvm _ _ _ _ R' F₇.keep fun tk₈ => wpAny_truthy_bool ?_
        by_cases hb : le fv[j] v = true
        · rw [if_pos hb]
          refine wpAny_allTrue_And_nil ?_
          rw [if_pos rfl]
          refine wpAny_execs_cons (wpAny_Assign_Name (wpAny_BinOp (nmL F₇ (wpAny_Constant_int (add_int (stL (l' := [(Str.ofString "at", .int ((j : Int) + 1) _), (Str.ofString "pair", v), (Str.ofString "found", .ref c), (Str.ofString "pairs", .ref a)]) F₇ (fun h₈ F₈ s₈ => wpAny_execs_nil ?_)))))))
          refine ⟨fv.length - (j + 1), by omega, j + 1, h₈, _, _, rfl, rfl, hj', fun i hi hij => ?_, F₈, s₇.trans s₈⟩
          rcases Nat.lt_or_ge i j with h' | h'
          · exact hall i hi h'
          · have : i = j := by omega
            subst this; exact hb
        · have hb' : le fv[j] v = false := by simpa using hb
          rw [if_neg hb, if_neg (by simpa using hb')]
          exact ⟨j, h₇, _, t, rfl, hj, hall, fun _ => hb', F₇, s₇⟩
      · rw [if_neg (by rw [decide_eq_true_eq]; omega)]
        exact ⟨j, h₇, _, t, rfl, hj, hall, fun h => absurd h hj', F₇, s₇⟩
    · exact ⟨0, h₆, _, _, rfl, by simp, Nat.zero_le _, fun i _ h => absurd h (Nat.not_lt_zero _), F₆, Heap.SameBut.refl ..⟩
    · rintro s' ⟨j, h₇, tk₇, t, rfl, hj, hall, hstop, F₇, s₇⟩
      have P₇ := PlainList.but P₆ s₇ (neA hcL)
      obtain ⟨e1, e2⟩ := take_while_at (fun x => le x v) fv j hj hall hstop
      have sz₇ : fv.length ≤ sizeLine := Nat.le_trans (by omega : fv.length ≤ 1000) (by decide)
      refine wpAny_execs_cons (wpAny_Assign_Name (wpAny_BinOp (wpAny_BinOp (sliceE (nmL F₇ (partN (partS (nmL F₇ ⟨c, fv, none, some (j : Int), rfl, P₇.isList, sz₇, .none, .int _ _, fun h₈ c₈ n₈ => ?_⟩))))))))
      rw [slicePick_upto fv.toArray j (by simpa using hj)] at n₈
      have F₈ := F₇.gro₀ n₈.toGro
      refine wpAny_List (args_cons (nmL F₈ (args_nil ⟨by show 1 ≤ sizeLine; decide, ?_⟩)))
      have n₉ := NewL.pushed h₈ [v]
      refine addL (isList_stays n₈.list n₉.stays) n₉.list (by simp; exact Nat.le_trans (by omega : _ ≤ 2000) (by decide)) fun h₁₀ c₁₀ n₁₀ => ?_
      have F₁₀ := F₈.gro₀ (n₉.toGro.trans n₁₀.toGro)
      have P₁₀ : h₁₀.PlainList c fv.toArray := PlainList.gro P₇ (n₈.toGro.trans (n₉.toGro.trans n₁₀.toGro)) nofun
      refine sliceE (nmL F₁₀ (partS (nmL F₁₀ (partN ⟨c, fv, some (j : Int), none, rfl, P₁₀.isList, sz₇, .int _ _, .none, fun h₁₁ c₁₁ n₁₁ => ?_⟩))))
      rw [slicePick_from fv.toArray j (by simpa using hj)] at n₁₁
      refine addL (isList_stays n₁₀.list n₁₁.stays) n₁₁.list (by simp; exact Nat.le_trans (by omega : _ ≤ 4000) (by decide)) fun h₁₂ c₁₂ n₁₂ => ?_
      have g : Gro none h₇ h₁₂ := n₈.toGro.trans (n₉.toGro.trans (n₁₀.toGro.trans (n₁₁.toGro.trans n₁₂.toGro)))
      have hge : @LE.le Nat _ h₇.objs.size c₁₂ := Nat.le_trans (n₈.toGro.trans (n₉.toGro.trans (n₁₀.toGro.trans n₁₁.toGro))).size n₁₂.ge
      have e₇ : h₇.objs.size = h₃.objs.size := by have := s₇.1; have := s₆.1; have := s₅.1; dsimp only at *; omega
      refine stL (l' := [(Str.ofString "found", .ref c₁₂), (Str.ofString "pairs", .ref a), (Str.ofString "at", .int j t), (Str.ofString "pair", v)]) (F₇.gro₀ g) (fun h₁₃ F₁₃ s₁₃ => wpAny_execs_nil ⟨rfl, c₁₂, h₁₃, _, _, rfl, F₁₃, ?_, ?_, ?_, ?_, ?_, ?_⟩)
      · show @Ne Nat _ _; omega
      · show @Ne Nat _ _; omega
      · omega
      · rw [hsn]
        unfold ins
        rw [← e1, ← e2]
        have := PlainList.but n₁₂.lst s₁₃ (neA (by omega))
        simpa using this
      · refine Heap.IsListIter.at hI₄ fun o e => (s₁₃.2 _ (neA (by omega))).trans (g.stays _ _ ((s₇.2 _ (neA (by omega))).trans ((s₆.2 _ (neA (by omega))).trans ((s₅.2 _ (neA (by omega))).trans e))))
      · have := s₁₃.1; have := g.size; dsimp only at *; omega
  · rintro s' h₃ tk₃ ⟨c, h', tk, l, rfl, F₃, hcL, hcI, hcs, P₃, hI₃, hsz₃⟩ hk₄ hsz₄
    dsimp only at hsz₄
    have hw : ∀ b : Nat, b ≠ h₂.objs.size → b ∉ [h₂.objs.size] := fun b hb z => hb (List.mem_singleton.mp z)
    have F₄ : FL s.heap s.heap.objs.size h₃ _ := F₃.to fun b o hb e => hk₄ b o (hw b fun z => by
      rcases hb with rfl | hb
      · omega
      · have hb' := Option.isSome_iff_exists.mp hb
        obtain ⟨o', e'⟩ := hb'
        have := ltS e'
        omega) e
    have lo₄ : @LT.lt Nat _ s.heap.objs.size h₃.objs.size := F₄.lo.lt
    refine wpAny_execs_cons (wpAny_Return_some (nmL F₄ ?_))
    refine h h₃ _ c ⟨⟨F₄.keep, by omega⟩, hcs, ?_⟩
    have e : vs.take vs.toArray.size = vs := by simp
    rw [e] at P₃
    exact plain_keeps P₃ fun o e => hk₄ _ o (hw _ hcI) e
end
end Mine

namespace Mine
local macro_rules | `(tactic| tb_start) => `(tactic| repeat' (first | exact List.forall_mem_nil _ | refine List.forall_mem_cons.mpr ⟨?_, ?_⟩ | exact Or.inl rfl | exact Or.inr ⟨by (dsimp only; decide), by k_mem⟩))
section
variable {prog : Program} {w : World} {p : Program} {loose : List Str} {mean : ExcName → Option Value} {mg mb : Str → Option Value}

/-- a number of levels that suffices -/
theorem levels_spec {A : Around} {s : Shared} {n : Nat} {t : Tok} {Q E : Value → Shared → Prop} (R : Room A 1) (G : GD p loose mean mg mb w s.heap) (hn : n ≤ 1000)
    (h : ∀ h' tk lv u, n ≤ 2 ^ lv → lv ≤ n → Gro none s.heap h' → Q (.int (lv : Nat) u) { s with heap := h', toks := tk }) :
    wpAny (model prog w) A (call (.ref 89) [.int n t]) Q E s := by
  refine callDef (binds := [(Str.ofString "many", .int n t)]) R (G.X 89 _ (by rfl)) rfl G.T.nolimit (codeRec_of G.X (by rfl)) rfl (by rfl) (by decide) (locs rfl) (of_decide_eq_true rfl) (fun h₁ A' E' R' F => ?_) rfl rfl rfl
  show wpAny _ _ (execs _ (envX (Str.ofString "_law_levels") _ s.heap.objs.size 89 (.ref 88) [])) _ _ _
  have hL1 : @LT.lt Nat _ s.heap.objs.size h₁.objs.size := F.lo.lt
  refine wpAny_execs_cons (wpAny_Assign_Name (wpAny_Constant_int ?_))
  refine stL (l' := [(Str.ofString "levels", .int 0 _), (Str.ofString "many", .int n t)]) F (fun h₂ F₂ s₂ => ?_)
  refine wpAny_execs_cons (whileX (fun m s' => ∃ (j : Nat) (h' : Heap) (tk : Nat) (u : Tok), s' = { s with heap := h', toks := tk } ∧ m = n - j ∧ j ≤ n ∧ (∀ i, i < j → 2 ^ i < n) ∧
      FL s.heap s.heap.objs.size h' [(Str.ofString "levels", .int (j : Nat) u), (Str.ofString "many", .int n t)] ∧ h₁.objs.size ≤ h'.objs.size)
    (fun s' => ∃ (j : Nat) (h' : Heap) (tk : Nat) (u : Tok), s' = { s with heap := h', toks := tk } ∧ j ≤ n ∧ n ≤ 2 ^ j ∧
      FL s.heap s.heap.objs.size h' [(Str.ofString "levels", .int (j : Nat) u), (Str.ofString "many", .int n t)] ∧ h₁.objs.size ≤ h'.objs.size)
    (fun m s1 E1 hI => ?_) n ?_ ?_)
  · obtain ⟨j, h', tk, u, rfl, rfl, hj, hall, F₃, hs⟩ := hI
    refine wpAny_isTrue_Compare1 (wpAny_BinOp (wpAny_Constant_int (nmL F₃ (lshift_int_small (n := ((j : Nat) : Int)) (by omega) (by omega) (by decide) (nmL F₃ (lt_int (wpAny_truthy_bool ?_)))))))
    have e : (1 : Int) * 2 ^ ((j : Nat) : Int).toNat = ((2 ^ j : Nat) : Int) := by simp
    rw [e]
    by_cases hb : 2 ^ j < n
    · rw [if_pos (decide_eq_true (by exact_mod_cast hb))]
      have hjn : j < n := Nat.lt_trans Nat.lt_two_pow_self hb
      refine wpAny_execs_cons (wpAny_Assign_Name (wpAny_BinOp (nmL F₃ (wpAny_Constant_int (add_int (stL (l' := [(Str.ofString "levels", .int ((j : Int) + 1) _), (Str.ofString "many", .int n t)]) F₃ (fun h₄ F₄ s₄ => wpAny_execs_nil ?_)))))))
      refine ⟨n - (j + 1), by omega, j + 1, h₄, _, _, rfl, rfl, hjn, fun i hi => ?_, F₄, by have := s₄.1; dsimp only at this; omega⟩
      rcases Nat.lt_or_ge i j with h' | h'
      · exact hall i h'
      · have : i = j := by omega
        subst this; exact hb
    · rw [if_neg (by rw [decide_eq_true_eq]; intro z; exact hb (by exact_mod_cast z))]
      exact ⟨j, h', _, u, rfl, hj, by omega, F₃, hs⟩
  · exact ⟨0, h₂, _, _, rfl, by simp, Nat.zero_le _, fun i h => absurd h (Nat.not_lt_zero _), F₂, by rw [s₂.1]; exact Nat.le_refl _⟩
  · rintro s' ⟨j, h', tk, u, rfl, hj, hb, F₃, hs⟩
    exact wpAny_execs_cons (wpAny_Return_some (nmL F₃ (h h' _ j u hb hj ⟨F₃.keep, by omega⟩)))

/-- the values that the ends' law builds: the hole, None, ints -/
inductive Kind : Value → Prop
  | hole : Kind (.ref 30)
  | none : Kind .none
  | int (i : Int) (t : Tok) : Kind (.int i t)
def isHoleV : Value → Bool
  | .ref _ => true
  | _ => false
def isIntV : Value → Bool
  | .int _ _ => true
  | _ => false
theorem isInst {A : Around} {s : Shared} {v : Value} {Q E : Value → Shared → Prop} (G : GD p loose mean mg mb w s.heap) (hv : Kind v) (h : ∀ tk, Q (.bool (isHoleV v)) { s with toks := tk }) :
    wpAny (model prog w) A (call (.builtin "isinstance") [v, .ref 24]) Q E s := by
  cases hv with
  | hole => exact isi_call G.X (fun M => looks_typeIn G.X (by rfl)) (by rfl) (fun e => by cases e) (h _)
  | none => exact isn_call (P := fun _ => True) G.X (fun M => Looks.of_pure rfl) (by rfl) (fun e => by cases e) trivial none_cls (h _)
  | int i t => exact isn_call (P := fun _ => True) G.X (fun M => Looks.of_pure rfl) (by rfl) (fun e => by cases e) trivial int_cls (h _)
theorem hole_spec {A : Around} {s : Shared} {v : Value} {Q E : Value → Shared → Prop} (R : Room A 1) (G : GD p loose mean mg mb w s.heap) (hv : Kind v)
    (h : ∀ h' tk, Gro none s.heap h' → Q (.bool (isHoleV v)) { s with heap := h', toks := tk }) : wpAny (model prog w) A (call (.ref 37) [v]) Q E s := by
  refine callDef (binds := [(Str.ofString "value", v)]) R (G.X 37 _ (by rfl)) rfl G.T.nolimit (codeRec_of G.X (by rfl)) rfl (by rfl) (by decide) (locs rfl) (of_decide_eq_true rfl) (fun h₁ A' E' R' F => ?_) rfl rfl rfl
  show wpAny _ _ (execs _ (envX (Str.ofString "is_hole") _ s.heap.objs.size 37 (.ref 36) [])) _ _ _
  have hL1 : @LT.lt Nat _ s.heap.objs.size h₁.objs.size := F.lo.lt
  have G₁ := G.keeps F.keep
  refine wpAny_execs_cons (wpAny_Return_some (callB G₁ (by rfl) boot_isinstance (args_cons (nmL F (args_cons (nmG G₁ (v := .ref 24) (by rfl) (args_nil ?_)))))))
  exact isInst G₁ hv fun tk => h h₁ tk ⟨F.keep, by omega⟩

def noneV : Value → Bool
  | .none => true
  | _ => false
set_option maxHeartbeats 4000000 in
theorem split_spec {A : Around} {s : Shared} {a : Addr} {vs : List Value} {Q E : Value → Shared → Prop} (R : Room A 2) (G : GD p loose mean mg mb w s.heap) (hl : s.heap.IsList a vs.toArray) (hsz : vs.length ≤ 1000) (hk : ∀ v ∈ vs, Kind v)
    (h : ∀ h' tk (c t : Nat) u1 u2, Gro none s.heap h' → s.heap.objs.size ≤ c → h'.PlainList c (vs.filter isIntV).toArray → s.heap.objs.size ≤ t → IsTup h' t #[.ref c, .int (vs.countP noneV : Nat) u1, .int (vs.countP isHoleV : Nat) u2] →
      Q (.ref t) { s with heap := h', toks := tk }) :
    wpAny (model prog w) A (call (.ref 56) [.ref a]) Q E s := by
  refine callDef (binds := [(Str.ofString "values", .ref a)]) R (G.X 56 _ (by rfl)) rfl G.T.nolimit (codeRec_of G.X (by rfl)) rfl (by rfl) (by decide) (locs rfl) (of_decide_eq_true rfl) (fun h₁ A' E' R' F => ?_) rfl rfl rfl
  show wpAny _ _ (execs _ (envX (Str.ofString "split_values") _ s.heap.objs.size 56 (.ref 55) [])) _ _ _
  have hL1 : @LT.lt Nat _ s.heap.objs.size h₁.objs.size := F.lo.lt
  refine wpAny_execs_cons (wpAny_Assign_Name (wpAny_List (args_nil ⟨by decide, ?_⟩)))
  refine stL (l' := [(Str.ofString "kept", .ref h₁.objs.size), (Str.ofString "values", .ref a)]) (F.push _) (fun h₂ F₂ s₂ => ?_)
  have P₂ : h₂.PlainList h₁.objs.size ([] : List Value).toArray := PlainList.but (PlainList.new h₁ []) s₂ (neA (by omega))
  have z₂ : h₂.objs.size = h₁.objs.size + 1 := by rw [s₂.1]; dsimp only; rw [Heap.size_push]
  refine wpAny_execs_cons (wpAny_Assign_Name (wpAny_Constant_int ?_))
  refine stL (l' := [(Str.ofString "absent", .int 0 _), (Str.ofString "kept", .ref h₁.objs.size), (Str.ofString "values", .ref a)]) F₂ (fun h₃ F₃ s₃ => ?_)
  refine wpAny_execs_cons (wpAny_Assign_Name (wpAny_Constant_int ?_))
  refine stL (l' := [(Str.ofString "holes", .int 0 _), (Str.ofString "absent", .int 0 _), (Str.ofString "kept", .ref h₁.objs.size), (Str.ofString "values", .ref a)]) F₃ (fun h₄ F₄ s₄ => ?_)
  have P₄ := PlainList.but (PlainList.but P₂ s₃ (neA (by omega))) s₄ (neA (by omega))
  have z₄ : h₄.objs.size = h₁.objs.size + 1 := by have := s₃.1; have := s₄.1; dsimp only at *; omega
  have hal : @LT.lt Nat _ a s.heap.objs.size := isList_lt hl
  have hc0 : s.heap.get? h₁.objs.size = none := Heap.get?_none_of_le (by omega)
  have W := Walks.list (prog := prog) (w := w) R'.hh h₄.objs.size a (neA (by omega)) vs.toArray
  refine wpAny_execs_cons (forW (nmL F₄ (wpAny_pyIter_list (isList_stays hl F₄.keep) ⟨h₄.objs.size, _, _, _, _, _, fun i s' => ∃ (h' : Heap) (tk : Nat) (u1 u2 : Tok) (l : List (Str × Value)), s' = { s with heap := h', toks := tk } ∧
      FL s.heap s.heap.objs.size h' ((Str.ofString "holes", .int ((vs.take i).countP isHoleV : Nat) u2) :: (Str.ofString "absent", .int ((vs.take i).countP noneV : Nat) u1) :: (Str.ofString "kept", .ref h₁.objs.size) :: (Str.ofString "values", .ref a) :: l) ∧
      h'.PlainList h₁.objs.size ((vs.take i).filter isIntV).toArray ∧ h'.IsListIter h₄.objs.size a i ∧ h₄.objs.size < h'.objs.size, rfl, W, ?_, ?_, ?_, ?_⟩)))
  · rintro i s' ⟨h', tk, u1, u2, l, rfl, F₃, _, hI, _⟩
    exact ⟨hI, isList_stays hl F₃.keep⟩
  · exact ⟨_, _, _, _, [], rfl, F₄.push _, plain_keeps P₄ fun o e => Heap.get?_push_of_some _ e, ⟨_, Heap.get?_push_size _ rfl, rfl, rfl⟩, by dsimp only; rw [Heap.size_push]; omega⟩
  · rintro i s' v h₅ tk₅ E₅ hi ⟨h', tk, u1, u2, l, rfl, F₅, P₅, hI₅, hsz₅⟩ hv ⟨hI₆, _⟩ hk₆ hsz₆
    have hv' : vs[i]? = some v := by simpa using hv
    dsimp only at hsz₆
    have hvm : v ∈ vs := List.mem_of_getElem? hv'
    have hkv := hk v hvm
    have hw : ∀ b : Nat, b ≠ h₄.objs.size → b ∉ [h₄.objs.size] := fun b hb z => hb (List.mem_singleton.mp z)
    have F₆ : FL s.heap s.heap.objs.size h₅ _ := F₅.to fun b o hb e => hk₆ b o (hw b fun z => by
      rcases hb with rfl | hb
      · omega
      · obtain ⟨o', e'⟩ := Option.isSome_iff_exists.mp hb
        have := ltS e'
        omega) e
    have P₆ := plain_keeps P₅ fun o e => hk₆ _ o (hw _ (by omega)) e
    have ht : vs.take (i + 1) = vs.take i ++ [v] := by rw [List.take_add_one, hv']; rfl
    have hfl : ((vs.take i).filter isIntV).length ≤ 1000 := Nat.le_trans (List.length_filter_le _ _) (by simp; omega)
    refine stL (l' := [(Str.ofString "value", v), (Str.ofString "holes", .int ((vs.take i).countP isHoleV : Nat) u2), (Str.ofString "absent", .int ((vs.take i).countP noneV : Nat) u1), (Str.ofString "kept", .ref h₁.objs.size), (Str.ofString "values", .ref a)]) F₆ (fun h₇ F₇ s₇ => ?_)
    have P₇ := PlainList.but P₆ s₇ (neA (by omega))
    have G₇ := G.keeps F₇.keep
    refine wpAny_execs_cons (wpAny_If (wpAny_isTrue_value (callG G₇ (by rfl) (by rfl) rfl (args_cons (nmL F₇ (args_nil ⟨G₇, hole_spec (R'.le (by decide)) G₇ hkv fun h₈ tk₈ g₈ => wpAny_truthy_bool ?_⟩))))))
    have F₈ := F₇.gro₀ g₈
    have P₈ := PlainList.gro P₇ g₈ nofun
    have I₈ : h₈.IsListIter h₄.objs.size a (i + 1) := hI₆.at fun o e => g₈.stays _ _ ((s₇.2 _ (neA (by omega))).trans e)
    have z₈ : h₄.objs.size < h₈.objs.size := by have := s₇.1; have := g₈.size; dsimp only at *; omega
    cases hkv with
    | hole =>
      rw [show isHoleV (.ref 30) = true from rfl, if_pos rfl]
      refine wpAny_execs_cons (wpAny_AugAssign_Name (ldL F₈ (wpAny_Constant_int (iadd_int (stL (l' := [(Str.ofString "holes", .int (((vs.take i).countP isHoleV : Nat) + 1) _), (Str.ofString "absent", .int ((vs.take i).countP noneV : Nat) u1), (Str.ofString "kept", .ref h₁.objs.size), (Str.ofString "values", .ref a)]) F₈ (fun h₉ F₉ s₉ => wpAny_execs_nil (wpAny_execs_nil ?_)))))))
      have e1 : (((vs.take i).countP isHoleV : Nat) : Int) + 1 = ((vs.take (i + 1)).countP isHoleV : Nat) := by rw [ht, List.countP_append]; rfl
      have e2 : (vs.take i).countP noneV = (vs.take (i + 1)).countP noneV := by rw [ht, List.countP_append]; rfl
      have e3 : (vs.take i).filter isIntV = (vs.take (i + 1)).filter isIntV := by rw [ht, List.filter_append]; exact (List.append_nil _).symm
      rw [e1, e2] at F₉
      rw [e3] at P₈
      exact ⟨rfl, h₉, _, u1, _, [], rfl, F₉, PlainList.but P₈ s₉ (neA (by omega)), I₈.at fun o e => (s₉.2 _ (neA (by omega))).trans e, by rw [s₉.1]; exact z₈⟩
    | none =>
      rw [show isHoleV .none = false from rfl, if_neg (by decide)]
      refine wpAny_execs_cons (wpAny_If (wpAny_isTrue_Compare1 (nmL F₈ (wpAny_Constant_none (is_none (wpAny_truthy_bool ?_))))))
      rw [if_pos (show (Value.none == Value.none) = true from by decide)]
      refine wpAny_execs_cons (wpAny_AugAssign_Name (ldL F₈ (wpAny_Constant_int (iadd_int (stL (l' := [(Str.ofString "holes", .int ((vs.take i).countP isHoleV : Nat) u2), (Str.ofString "absent", .int (((vs.take i).countP noneV : Nat) + 1) _), (Str.ofString "kept", .ref h₁.objs.size), (Str.ofString "values", .ref a)]) F₈ (fun h₉ F₉ s₉ => wpAny_execs_nil (wpAny_execs_nil (wpAny_execs_nil ?_))))))))
      have e1 : (((vs.take i).countP noneV : Nat) : Int) + 1 = ((vs.take (i + 1)).countP noneV : Nat) := by rw [ht, List.countP_append]; rfl
      have e2 : (vs.take i).countP isHoleV = (vs.take (i + 1)).countP isHoleV := by rw [ht, List.countP_append]; rfl
      have e3 : (vs.take i).filter isIntV = (vs.take (i + 1)).filter isIntV := by rw [ht, List.filter_append]; exact (List.append_nil _).symm
      rw [e1, e2] at F₉
      rw [e3] at P₈
      exact ⟨rfl, h₉, _, _, u2, [], rfl, F₉, PlainList.but P₈ s₉ (neA (by omega)), I₈.at fun o e => (s₉.2 _ (neA (by omega))).trans e, by rw [s₉.1]; exact z₈⟩
    | int k tk =>
      rw [show isHoleV (.int k tk) = false from rfl, if_neg (by decide)]
      refine wpAny_execs_cons (wpAny_If (wpAny_isTrue_Compare1 (nmL F₈ (wpAny_Constant_none (is_none (wpAny_truthy_bool ?_))))))
      rw [if_neg (show ¬ (Value.int k tk == Value.none) = true from by simp)]
      refine wpAny_execs_cons (appendS F₈ P₈ (nmL F₈ ⟨_, P₈, (by rw [List.size_toArray]; exact Nat.le_trans hfl (by decide)), fun h₉ P₉ s₉ => wpAny_execs_nil (wpAny_execs_nil (wpAny_execs_nil ⟨rfl, h₉, _, u1, u2, [], rfl, ?_, ?_, ?_, ?_⟩))⟩))
      · rw [ht, List.countP_append, List.countP_append]
        have := (F₈.but s₉ (neA (by omega)) hc0).sub (l' := [(Str.ofString "holes", .int ((vs.take i).countP isHoleV : Nat) u2), (Str.ofString "absent", .int ((vs.take i).countP noneV : Nat) u1), (Str.ofString "kept", .ref h₁.objs.size), (Str.ofString "values", .ref a)]) fun p hp => .tail _ hp
        simpa [isHoleV, noneV] using this
      · rw [ht, List.filter_append, show List.filter isIntV [Value.int k tk] = [Value.int k tk] from rfl]
        simpa using P₉
      · exact I₈.at fun o e => (s₉.2 _ (neA (by omega))).trans e
      · rw [s₉.1]; exact z₈
  · rintro s' h₅ tk₅ ⟨h', tk, u1, u2, l, rfl, F₅, P₅, hI₅, hsz₅⟩ hk₆ hsz₆
    dsimp only at hsz₆
    have hw : ∀ b : Nat, b ≠ h₄.objs.size → b ∉ [h₄.objs.size] := fun b hb z => hb (List.mem_singleton.mp z)
    have F₆ : FL s.heap s.heap.objs.size h₅ _ := F₅.to fun b o hb e => hk₆ b o (hw b fun z => by
      rcases hb with rfl | hb
      · omega
      · obtain ⟨o', e'⟩ := Option.isSome_iff_exists.mp hb
        have := ltS e'
        omega) e
    have P₆ := plain_keeps P₅ fun o e => hk₆ _ o (hw _ (by omega)) e
    have e : vs.take vs.toArray.size = vs := by simp
    rw [e] at P₆ F₆
    refine wpAny_execs_cons (wpAny_Return_some (wpAny_Tuple (args_cons (nmL F₆ (args_cons (nmL F₆ (args_cons (nmL F₆ (args_nil ⟨by show 3 ≤ sizeLine; decide, ?_⟩)))))))))
    refine h _ _ h₁.objs.size h₅.objs.size u1 u2 ⟨stays_push F₆.keep _, by show s.heap.objs.size ≤ (h₅.push _).objs.size; rw [Heap.size_push]; omega⟩ (by omega) (plain_keeps P₆ fun o e => Heap.get?_push_of_some _ e) (by omega) (IsTup.new _ _)
end
end Mine

namespace Mine
local macro_rules | `(tactic| tb_start) => `(tactic| repeat' (first | exact List.forall_mem_nil _ | refine List.forall_mem_cons.mpr ⟨?_, ?_⟩ | exact Or.inl rfl | exact Or.inr ⟨by (dsimp only; decide), by k_mem⟩))
theorem foldl_rep (n : Nat) : ∀ acc : Array Value, List.foldl (fun x1 x2 => x1 ++ x2) acc (List.replicate n #[Value.none]) = acc ++ (List.replicate n Value.none).toArray := by
  induction n with
  | zero => intro acc; simp
  | succ n ih => intro acc; rw [List.replicate_succ, List.foldl_cons, ih, List.replicate_succ, Array.append_assoc]; congr 1; simp
section
variable {prog : Program} {w : World} {p : Program} {loose : List Str} {mean : ExcName → Option Value} {mg mb : Str → Option Value}
/-- «[None] * n» -/
theorem mulNone {A : Around} {s : Shared} {l : Addr} {n : Nat} {u : Tok} {Q E : Value → Shared → Prop} (hl : s.heap.PlainList l [Value.none].toArray) (hn : n ≤ 100000)
    (h : ∀ h' c, NewL none s.heap h' c (List.replicate n .none) → Q (.ref c) { s with heap := h' }) : wpAny (model prog w) A (binaryOp .Mult (.ref l) (.int n u)) Q E s := by
  obtain ⟨k, ho⟩ := hl
  have ty : s.TypeIs (.ref l) "list" := ⟨_, ho, rfl⟩
  have done := h _ _ (NewL.pushed s.heap (List.replicate n Value.none))
  have items : List.foldl (fun x1 x2 => x1 ++ x2) #[] (List.replicate (if ([Value.none].toArray : Array Value).isEmpty = true then 0 else (n : Int).toNat) [Value.none].toArray) = (List.replicate n Value.none).toArray := by
    rw [if_neg (by simp), Int.toNat_natCast]
    exact (foldl_rep n #[]).trans (by simp)
  have one : ([Value.none].toArray : Array Value).size = 1 := rfl
  refine wpAny_binaryOp_repeat_ref (U := "int") (by decide) ty (fun s' => typeIs_int s' _ u) noFill_list_mul F.fills_int_mul F.slot_int_rmul repeat_list F.slot_int_index.lookup ?_
  refine call_meets F.slot_int_rmul (typeIs_int s _ u) F.entry_int_rmul (F.args_int_rmul_2 _ _) (int___rmul___int_list _ u l _ k) ⟨ho, rfl, ty, ?_⟩
  refine call_meets F.slot_list_mul ty F.entry_list_mul (F.args_list_mul_2 _ _) (AutoListH.list___mul___list_int_3 l _ k _ u ?_ ?_ ?_) ⟨ho, ?_⟩
  · simp only [Builtin.List.listFitsIndex, Bool.not_eq_true, Bool.not_eq_false', Bool.and_eq_true, decide_eq_true_eq]; omega
  · rw [one]; omega
  · simp only [Builtin.List.listTooLong, sizeLine, one, decide_eq_true_eq]; omega
  · rw [items]; exact done

/-- the sort with a relation that turns nothing -/
theorem sortP {A : Around} {s : Shared} {f : Addr} {b : Value → Value → Bool} {dom : Value → Prop} {d : Nat} {a : Addr} {vs : List Value} {Q E : Value → Shared → Prop}
    (R : Room A (d + 2)) (G : GD p loose mean mg mb w s.heap) (B : Beh prog w s.heap none (fun _ _ => True) f b dom d)
    (hl : s.heap.IsList a vs.toArray) (hv : ∀ v ∈ vs, dom v) (hsz : vs.length ≤ 1000)
    (h : ∀ h' tk c, NewL none s.heap h' c (msort b vs) → Q (.ref c) { s with heap := h', toks := tk }) :
    wpAny (model prog w) A (call (.ref 49) [.ref a, .ref f]) Q E s :=
  sort_spec (q := none) (J := fun _ _ => True) (n := 0) R G nofun B hl hv hsz (by decide) trivial fun h' tk c k n _ _ => h h' tk c n

theorem sort_values_spec {A : Around} {s : Shared} {f : Addr} {b : Value → Value → Bool} {d : Nat} {a : Addr} {vs : List Value} {Q E : Value → Shared → Prop}
    (R : Room A (d + 3)) (G : GD p loose mean mg mb w s.heap) (B : Beh prog w s.heap none (fun _ _ => True) f b (fun v => isIntV v = true) d)
    (hl : s.heap.IsList a vs.toArray) (hv : ∀ v ∈ vs, Kind v) (hsz : vs.length ≤ 1000)
    (h : ∀ h' tk c, NewL none s.heap h' c (msort b (vs.filter isIntV) ++ List.replicate (vs.countP noneV) .none) → Q (.ref c) { s with heap := h', toks := tk }) :
    wpAny (model prog w) A (call (.ref 63) [.ref a, .ref f]) Q E s := by
  refine callDef (binds := [(Str.ofString "values", .ref a), (Str.ofString "is_behind", .ref f)]) R (G.X 63 _ (by rfl)) rfl G.T.nolimit (codeRec_of G.X (by rfl)) rfl (by rfl) (by decide) (locs rfl) (of_decide_eq_true rfl) (fun h₁ A' E' R' F => ?_) rfl rfl rfl
  show wpAny _ _ (execs _ (envX (Str.ofString "sort_values") _ s.heap.objs.size 63 (.ref 62) [])) _ _ _
  have hL1 : @LT.lt Nat _ s.heap.objs.size h₁.objs.size := F.lo.lt
  have G₁ := G.keeps F.keep
  refine wpAny_execs_cons (Assign_Tuple (callG G₁ (by rfl) (by rfl) rfl (args_cons (nmL F (args_nil ⟨G₁, split_spec (R'.le (by omega)) G₁ (isList_stays hl F.keep) hsz hv fun h₂ tk₂ c t u1 u2 g₂ hc P₂ ht T₂ => ?_⟩)))))
  have F₂ := F.gro₀ g₂
  refine assign_Tuple_tuple R'.hh T₂ rfl rfl fun h₃ he₃ => ?_
  have hk₃ : h₂.StaysIn h₃ := fun b o e => he₃ b o (Nat.ne_of_lt (Heap.lt_size e)) e
  have F₃ := F₂.grow hk₃
  refine assignInOrder_cons (wpAny_assign_Name (stL (l' := [(Str.ofString "kept", .ref c), (Str.ofString "values", .ref a), (Str.ofString "is_behind", .ref f)]) F₃ (fun h₄ F₄ s₄ => ?_)))
  refine assignInOrder_cons (wpAny_assign_Name (stL (l' := [(Str.ofString "absent", .int _ u1), (Str.ofString "kept", .ref c), (Str.ofString "values", .ref a), (Str.ofString "is_behind", .ref f)]) F₄ (fun h₅ F₅ s₅ => ?_)))
  refine assignInOrder_cons (wpAny_assign_Name (stL (l' := [(Str.ofString "absent", .int _ u1), (Str.ofString "kept", .ref c), (Str.ofString "values", .ref a), (Str.ofString "is_behind", .ref f)]) F₅ (fun h₆ F₆ s₆ => assignInOrder_nil ?_)))
  dsimp only at hc
  have hcL : @Ne Nat c s.heap.objs.size := by omega
  have P₆ := PlainList.but (PlainList.but (PlainList.but (plain_keeps P₂ fun o e => hk₃ _ _ e) s₄ (neA hcL)) s₅ (neA hcL)) s₆ (neA hcL)
  have G₆ := G.keeps F₆.keep
  have hfl : (vs.filter isIntV).length ≤ vs.length := List.length_filter_le _ _
  have hcl : vs.countP noneV ≤ vs.length := List.countP_le_length
  refine wpAny_execs_cons (wpAny_Return_some (wpAny_BinOp (callG G₆ (by rfl) (by rfl) rfl (args_cons (nmL F₆ (args_cons (nmL F₆ (args_nil ⟨G₆, ?_⟩))))))))
  refine sortP (R'.le (by omega)) G₆ (B.mono F₆.keep) P₆.isList (fun v hv' => (List.mem_filter.mp hv').2) (by omega) fun h₇ tk₇ c₇ n₇ => ?_
  have F₇ := F₆.gro₀ n₇.toGro
  refine wpAny_BinOp (wpAny_List (args_cons (wpAny_Constant_none (args_nil ⟨by decide, ?_⟩))))
  have n₈ := NewL.pushed h₇ [Value.none]
  refine nmL (F₇.push _) (mulNone (n := vs.countP noneV) n₈.lst (by omega) fun h₉ c₉ n₉ => ?_)
  have hml := (msort_perm b (vs.filter isIntV)).length_eq
  refine addL (isList_stays (isList_stays n₇.list n₈.stays) n₉.stays) n₉.list (by rw [List.length_replicate, hml]; exact Nat.le_trans (by omega : _ ≤ 3000) (by decide)) fun h₁₀ c₁₀ n₁₀ => ?_
  have g : Gro none h₆ h₁₀ := n₇.toGro.trans (n₈.toGro.trans (n₉.toGro.trans n₁₀.toGro))
  have hge : @LE.le Nat _ h₆.objs.size c₁₀ := Nat.le_trans (n₇.toGro.trans (n₈.toGro.trans n₉.toGro)).size n₁₀.ge
  have z₆ : @LT.lt Nat _ s.heap.objs.size h₆.objs.size := F₆.lo.lt
  exact h h₁₀ _ c₁₀ ⟨⟨stays_trans F₆.keep g.stays, Nat.le_trans (by omega) g.size⟩, by omega, n₁₀.lst⟩
end
end Mine

namespace Mine
local macro_rules | `(tactic| tb_start) => `(tactic| repeat' (first | exact List.forall_mem_nil _ | refine List.forall_mem_cons.mpr ⟨?_, ?_⟩ | exact Or.inl rfl | exact Or.inr ⟨by (dsimp only; decide), by k_mem⟩))
/-- v is a tuple of S whose place i is x -/
def Item (S : Heap) (i : Nat) (v x : Value) : Prop := ∃ (t : Addr) (its : List Value), v = .ref t ∧ IsTup S t its.toArray ∧ its[i]? = some x
theorem Item.mono {S S' : Heap} {i : Nat} {v x : Value} (h : Item S i v x) (k : S.StaysIn S') : Item S' i v x := let ⟨t, its, e, h, q⟩ := h; ⟨t, its, e, isTup_stays h k, q⟩
theorem Item.keyed {S : Heap} {key : Value → Value} {v : Value} (h : Item S 0 v (key v)) : Keyed S key v := h
section
variable {prog : Program} {w : World} {p : Program} {loose : List Str} {mean : ExcName → Option Value} {mg mb : Str → Option Value}
theorem itemN {A : Around} {E : Value → Shared → Prop} {s : Shared} {value slice : Expr} {S : Heap} {i : Nat} {k : Int} {v y : Value} {u : Tok} {Q : Value → Shared → Prop} (x : Item S i v y) (hS : S.StaysIn s.heap) (hk : k = i) (hi : i < 1000) (h : Q y s)
    (hs : ∀ t : Addr, subscripted slice false (.ref t) (.int k u) = operate [.ref t, .int k u] (getItem (.ref t) (.int k u)) := by intro _; with_unfolding_all rfl) :
    wpAny (model prog w) A (subscriptTail value slice v (.int k u)) Q E s := by
  obtain ⟨t, its, rfl, ht, hx⟩ := x
  have hpos : i < its.length := by
    rcases Nat.lt_or_ge i its.length with h | h
    · exact h
    · rw [List.getElem?_eq_none h] at hx; cases hx
  subst hk
  refine item_tupleT (j := i) (isTup_stays ht hS) (by omega) (by omega) ?_ hx h (hs t)
  simp only [seqIndex?]
  have h1 : ¬ ((i : Int) < 0) := by omega
  have h2 : (i : Int) < (its.length : Int) := by omega
  simp [h1, h2, hpos]

/-- a lambda is called -/
theorem callLam {A : Around} {E : Value → Shared → Prop} {s : Shared} {f : Addr} {o : Obj} {fd : FuncData} {body : Expr} {args : List Value} {binds : List (Str × Value)} {Q : Value → Shared → Prop} {n : Nat}
    (R : Room A (n + 1)) (ho : s.heap.get? f = some o) (hd : o.data = .func fd) (hlim : s.heap.NoLimit) (hcd : s.heap.CodeRec fd.code fd.qualname)
    (hbody : fd.body = .expr body) (hbind : bindArgs fd ⟨args, []⟩ = pure binds) (hcell : ∀ x ∈ fd.scope.names, x.2 ≠ .cell) (hloc : ∀ x ∈ binds, fd.scope.names.lookup x.1 = some .local)
    (hnd : (binds.map (·.1)).Nodup)
    (h : ∀ h₁ A' E', Room A' n → FL s.heap s.heap.objs.size h₁ binds →
      wpAny (model prog w) A' (eval body (callEnv fd s.heap.objs.size f)) (fun v s' => Q v s') E' { s with heap := h₁, toks := s.toks + binds.length })
    (hco : fd.scope.isCoroutine = false := by rfl) (hgen : fd.scope.isGenerator = false := by rfl) (hk : fd.scope.kind = .function := by rfl) :
    wpAny (model prog w) A (call (.ref f) args) Q E s := by
  refine wpAny_call (kla_callFunE (by have := R.dep; omega) ho hd hco hgen hbody hcd ?_)
  rw [hbind]
  refine wpAny_pure (wpAny_newFunctionEnv hcell hloc (fun h₁ hns hsb => ⟨hlim.fresh _ hsb, ?_⟩) hk)
  show codeAny _ _ (.expr body (callEnv fd s.heap.objs.size f)) _ _
  have hk₁ : s.heap.StaysIn h₁ := fun b o e => hsb.extBut b o (Nat.ne_of_lt (Heap.lt_size e)) (Heap.get?_push_of_some _ e)
  refine kla_codeExpr (wpAny_mono (h h₁ _ _ (R.deeper _) ⟨⟨_, hns, fun p hp => ?_⟩, hk₁, Heap.get?_none_of_le (Nat.le_refl _)⟩) (fun v s' hq => hq) fun e s' he => he)
  clear h hloc hbind
  have hp' : p ∈ binds.reverse := List.mem_reverse.mpr hp
  have hnd' : (binds.reverse.map (·.1)).Nodup := by rw [List.map_reverse]; exact (List.reverse_perm _).symm.nodup hnd
  generalize binds.reverse = r at hp' hnd'
  induction r with
  | nil => cases hp'
  | cons q r ih =>
    rw [List.lookup_cons]
    rcases List.mem_cons.mp hp' with rfl | hp'
    · simp
    · have hne : (p.1 == q.1) = false := by
        rw [List.map_cons, List.nodup_cons] at hnd'
        exact beq_eq_false_iff_ne.mpr fun z => hnd'.1 (z ▸ List.mem_map_of_mem hp')
      rw [hne]
      exact ih hp' (List.nodup_cons.mp hnd').2

def intOf : Value → Int
  | .int i _ => i
  | _ => 0
def strOf : Value → List Nat
  | .str x _ => x.cps.toList
  | _ => []
def textGt (v u : Value) : Bool := decide (strOf u < strOf v)
theorem text_beh {S : Heap} {key : Value → Value} (G : GD p loose mean mg mb w S) :
    Beh prog w S none (fun _ _ => True) 70 (fun v u => textGt (key v) (key u)) (fun v => Item S 0 v (key v) ∧ ∃ x t, key v = .str x t) 1 where
  fn := ⟨_, _, G.X 70 _ (by rfl), rfl⟩
  stable := fun _ _ _ _ _ => trivial
  tells := fun A s x y n Q E R hS hx hy _ _ h => by
    have G₀ := G.keeps hS
    refine callDef (binds := [(Str.ofString "one", x), (Str.ofString "other", y)]) R (G₀.X 70 _ (by rfl)) rfl G₀.T.nolimit (codeRec_of G₀.X (by rfl)) rfl (by rfl) (by decide) (locs rfl) (of_decide_eq_true rfl) (fun h₁ A' E' R' F => ?_) rfl rfl rfl
    show wpAny _ _ (execs _ (envX (Str.ofString "text_is_behind") _ s.heap.objs.size 70 (.ref 69) [])) _ _ _
    have hL1 : @LT.lt Nat _ s.heap.objs.size h₁.objs.size := F.lo.lt
    obtain ⟨ix, sx, tx, ex⟩ := hx
    obtain ⟨iy, sy, ty, ey⟩ := hy
    have hS₁ := stays_trans hS F.keep
    refine wpAny_execs_cons (wpAny_Return_some (wpAny_Compare1 (Subscript_ (nmL F (wpAny_Constant_int (itemN ix hS₁ rfl (by decide) (Subscript_ (nmL F (wpAny_Constant_int (itemN iy hS₁ rfl (by decide) ?_))))))))))
    rw [ex, ey]
    refine P.gt_str ?_
    have := h h₁ (s.toks + 2 + 1 + 1) ⟨F.keep, by omega⟩ trivial
    rw [show textGt (key x) (key y) = decide (sy.cps.toList < sx.cps.toList) by rw [ex, ey]; rfl] at this
    exact this

theorem fpl2 {h : Heap} {o : Obj} {a : Addr} (ha : @LT.lt Nat _ a h.objs.size) : ∀ b : Nat, b ∈ [h.objs.size, a] → b < (h.push o).objs.size := fun z hz => by
  rw [Heap.size_push]
  simp only [List.mem_cons, List.not_mem_nil, or_false] at hz
  rcases hz with rfl | rfl <;> omega
theorem wrn1 (h : Heap) : ∀ b ∈ [h.objs.size], h.get? b = none := fun z hz => by rw [List.mem_singleton.mp hz]; exact fresh_none _

theorem by_texts_spec {A : Around} {s : Shared} {key snd : Value → Value} {a : Addr} {vs : List Value} {Q E : Value → Shared → Prop}
    (R : Room A 5) (G : GD p loose mean mg mb w s.heap) (hl : s.heap.IsList a vs.toArray) (hsz : vs.length ≤ 1000)
    (hk : ∀ v ∈ vs, Item s.heap 0 v (key v) ∧ ∃ x t, key v = .str x t) (hs : ∀ v ∈ vs, Item s.heap 1 v (snd v))
    (h : ∀ h' tk c, NewL none s.heap h' c ((msort (fun v u => textGt (key v) (key u)) vs).map snd) → Q (.ref c) { s with heap := h', toks := tk }) :
    wpAny (model prog w) A (call (.ref 75) [.ref a]) Q E s := by
  refine callDef (binds := [(Str.ofString "pairs", .ref a)]) R (G.X 75 _ (by rfl)) rfl G.T.nolimit (codeRec_of G.X (by rfl)) rfl (by rfl) (by decide) (locs rfl) (of_decide_eq_true rfl) (fun h₁ A' E' R' F => ?_) rfl rfl rfl
  show wpAny _ _ (execs _ (envX (Str.ofString "sort_by_texts") _ s.heap.objs.size 75 (.ref 74) [])) _ _ _
  have hL1 : @LT.lt Nat _ s.heap.objs.size h₁.objs.size := F.lo.lt
  have G₁ := G.keeps F.keep
  refine wpAny_execs_cons (wpAny_Return_some (lcE (env := envX (Str.ofString "sort_by_texts") _ s.heap.objs.size 75 (.ref 74) []) (cl := []) (by rfl) (by decide) (by rfl) (by decide) (callG G₁ (by rfl) (by rfl) rfl (args_cons (nmL F (args_cons (nmG G₁ (v := .ref 70) (by rfl) (args_nil ⟨G₁, ?_⟩))))))))
  refine sortP (d := 1) (R'.le (by decide)) G₁ ((text_beh (key := key) G).mono F.keep) (isList_stays hl F.keep) (fun v hv => ⟨(hk v hv).1, (hk v hv).2⟩) hsz fun h₂ tk₂ c₂ n₂ => ?_
  have hlc : @LT.lt Nat _ c₂ h₂.objs.size := isList_lt n₂.list
  have hmp := msort_perm (fun v u => textGt (key v) (key u)) vs
  generalize msort (fun v u => textGt (key v) (key u)) vs = ms at n₂ hmp h
  have hml := hmp.length_eq
  refine wpAny_pyIter_list n₂.list ⟨h₂.objs.size, _, _, _, _, _, fun N i ys h => ys = (ms.take i).map snd, h₂, rfl, ⟨fun C => Src.name (Walks.list R'.hh h₂.objs.size c₂ (neA (by omega)) ms.toArray) (by rfl) (by rfl), ?_, ⟨⟨_, Heap.get?_push_size _ rfl, rfl, rfl⟩, n₂.list.push _⟩, fpl2 hlc, stays_push (stays_refl _) _, ?_, wrn1 h₂, ?_, ?_, ?_⟩, ?_⟩
  · rw [List.size_toArray]; exact Nat.le_trans (by omega : ms.length ≤ 1000) (by decide)
  · dsimp only; rw [Heap.size_push]; omega
  · exact fun N h => rfl
  · exact fun N i ys h h' K k => K
  · rintro N C i ys bs s₃ E₃ hi ⟨v, hv', rfl⟩ hN hN' F₃ K₃
    refine tests_nil ?_
    rw [if_pos rfl]
    have hv'' : ms[i]? = some v := by simpa using hv'
    have hvm : v ∈ vs := hmp.mem_iff.mp (List.mem_of_getElem? hv'')
    refine Subscript_ (nmL F₃ (wpAny_Constant_int (itemN (hs v hvm) (stays_trans F.keep (stays_trans n₂.stays F₃.keep)) rfl (by decide) ⟨_, _, rfl, stays_refl _, ?_⟩)))
    rw [K₃, List.take_add_one, hv'', List.map_append]
    rfl
  · intro D h₃ tk₃ ys N n₃ K₃ hN
    have e : ys = ms.map snd := by simpa using K₃
    subst e
    exact h h₃ _ D ⟨⟨stays_trans F.keep (stays_trans n₂.stays n₃.stays), by have := n₂.size; have := n₃.size; dsimp only at *; omega⟩, by have := n₂.size; have := n₃.ge; dsimp only at *; omega, n₃.lst⟩
end
end Mine

namespace Mine
local macro_rules | `(tactic| tb_start) => `(tactic| repeat' (first | exact List.forall_mem_nil _ | refine List.forall_mem_cons.mpr ⟨?_, ?_⟩ | exact Or.inl rfl | exact Or.inr ⟨by (dsimp only; decide), by k_mem⟩))
section
variable {prog : Program} {w : World} {p : Program} {loose : List Str} {mean : ExcName → Option Value} {mg mb : Str → Option Value}
/-- a def with cells is called: lb are its names that are plain -/
theorem callDefC {A : Around} {E : Value → Shared → Prop} {s : Shared} {f : Addr} {o : Obj} {fd : FuncData} {body : List Stmt} {args : List Value} {binds lb : List (Str × Value)} {Q : Value → Shared → Prop} {n : Nat}
    (R : Room A (n + 1)) (ho : s.heap.get? f = some o) (hd : o.data = .func fd) (hlim : s.heap.NoLimit) (hcd : s.heap.CodeRec fd.code fd.qualname)
    (hbody : fd.body = .stmts body) (hbind : bindArgs fd ⟨args, []⟩ = pure binds) (hclo : fd.closure = [])
    (hkind : ∀ m, ∀ x ∈ binds, fd.scope.names.lookup x.1 = some .local ∨ (fd.scope.names.lookup x.1 = some .cell ∧ ((cellsFrom m fd.scope.names []).lookup x.1).isSome = true))
    (hlb : ∀ p ∈ lb, bindL (callEnvC fd s.heap.objs.size f).kindOf binds (fun _ => none) p.1 = some p.2)
    (h : ∀ h₁ tk A' E', Room A' n → FL s.heap s.heap.objs.size h₁ lb →
      (∀ n c, (cellsFrom (s.heap.objs.size + 1) fd.scope.names []).lookup n = some c → h₁.IsCell c (bindC (callEnvC fd s.heap.objs.size f).kindOf binds (fun _ => none) n)) →
      wpAny (model prog w) A' (execs body (callEnvC fd s.heap.objs.size f)) (fun fl s' => Q (match fl with | .ret v => v | _ => .none) s') E' { s with heap := h₁, toks := tk })
    (hco : fd.scope.isCoroutine = false := by rfl) (hgen : fd.scope.isGenerator = false := by rfl) (hk : fd.scope.kind = .function := by rfl) :
    wpAny (model prog w) A (call (.ref f) args) Q E s := by
  refine wpAny_call (codeAny_call_cells (by have := R.dep; omega) ho hd hlim hcd hbody hbind hclo (hkind _) (fun s₁ x => ?_) hco hgen hk)
  obtain ⟨h₁, tk, rfl, hk₁⟩ := x.done
  exact h h₁ tk _ _ (R.deeper _) ⟨⟨_, x.toInCall.ns, hlb⟩, hk₁, Heap.get?_none_of_le (Nat.le_refl _)⟩ x.cell

theorem nmC {A : Around} {E : Value → Shared → Prop} {s : Shared} {env : Env} {x : Str} {pos : Pos} {c : Addr} {v : Value} {Q : Value → Shared → Prop} (hc : env.cells.lookup x = some c) (hv : s.heap.IsCell c (some v)) (h : Q v s)
    (hk : env.scope.kind = .function := by rfl) (hx : env.kindOf x = some .cell := by rfl) (hd : (x == ("__debug__" : Str)) = false := by decide) :
    wpAny (model prog w) A (eval (.Name x pos) env) Q E s := wpAny_Name (wpAny_loadName_cell hk hx hc hv h) hd

theorem powZ {A : Around} {E : Value → Shared → Prop} {s : Shared} {a n z : Int} {t u : Tok} {Q : Value → Shared → Prop} (e : a ^ n.toNat = z) (hn : 0 ≤ n) (hn2 : n ≤ 1000000) (ha : a.natAbs < 2 ^ 64) (h : Q (.int z s.toks) { s with toks := s.toks + 1 }) :
    wpAny (model prog w) A (binaryOp .Pow (.int a t) (.int n u)) Q E s := pow_int_small hn hn2 ha (by rw [e]; exact h)
theorem pow9 (i : Nat) (h : i < 4) : ∃ z : Int, (9 : Int) ^ (0 + (i : Nat) * 1 : Int).toNat = z ∧ 0 < z ∧ z < 1000 := by
  have : i = 0 ∨ i = 1 ∨ i = 2 ∨ i = 3 := by omega
  rcases this with rfl | rfl | rfl | rfl <;> exact ⟨_, rfl, by decide, by decide⟩
set_option maxHeartbeats 4000000 in
theorem text_spec {A : Around} {s : Shared} {n : Int} {t : Tok} {Q E : Value → Shared → Prop} (R : Room A 9) (G : GD p loose mean mg mb w s.heap)
    (h : ∀ h' tk x u, Gro none s.heap h' → x.length ≤ 100 → Q (.str x u) { s with heap := h', toks := tk }) :
    wpAny (model prog w) A (call (.ref 99) [.int n t]) Q E s := by
  refine callDefC (binds := [(Str.ofString "n", .int n t)]) (lb := []) R (G.X 99 _ (by rfl)) rfl G.T.nolimit (codeRec_of G.X (by rfl)) rfl (by rfl) rfl (kindsX (by rfl)) (fun _ h => by cases h) (fun h₁ tk₁ A' E' R' F HC => ?_) rfl rfl rfl
  show wpAny _ _ (execs _ (envX (Str.ofString "_law_text") _ s.heap.objs.size 99 (.ref 98) [(Str.ofString "n", s.heap.objs.size + 1)])) _ _ _
  have hcell : h₁.IsCell (s.heap.objs.size + 1) (some (.int n t)) := HC (Str.ofString "n") _ (by rfl)
  clear HC
  have hL1 : @LT.lt Nat _ s.heap.objs.size h₁.objs.size := F.lo.lt
  have G₁ := G.keeps F.keep
  refine wpAny_execs_cons (wpAny_Return_some (MethodCall_ (wpAny_Constant_str ?_)))
  refine GM.join (callWith_method1 (args_cons (lcE (env := envX (Str.ofString "_law_text") _ s.heap.objs.size 99 (.ref 98) [(Str.ofString "n", s.heap.objs.size + 1)]) (cl := [(Str.ofString "n", s.heap.objs.size + 1)]) (by rfl) (by decide) (by rfl) (by decide)
    (callTy G₁ (by rfl) boot_range (args_cons (wpAny_BinOp (nmC (c := s.heap.objs.size + 1) (by rfl) hcell (wpAny_Constant_int (mod_int' (by decide) (args_nil (call_range_1 ?_)))))))))))
  have hn0 := Int.fmod_nonneg_of_pos n (show (0 : Int) < 4 by decide)
  have hn4 := Int.fmod_lt_of_pos n (show (0 : Int) < 4 by decide)
  obtain ⟨m, hm⟩ : ∃ m : Nat, n.fmod 4 = m := ⟨(n.fmod 4).toNat, by omega⟩
  rw [hm]
  refine wpAny_pyIter_range (IsRange.new ..) (small_one (by decide) (by decide) (by omega) (by omega)) ?_
  dsimp only
  have hm4 : m < 4 := by omega
  have hsz : Builtin.Range.rangeSize 0 (m : Int) 1 = (m : Int) := by
    rw [rangeSize_one]
    by_cases h0 : (0 : Int) < m
    · rw [if_pos h0]; omega
    · rw [if_neg h0]; omega
  rw [hsz]
  refine ⟨h₁.objs.size + 1, _, _, m, _, _, fun N i ys h => ∃ l : List (Str × Tok), ys = strValues l ∧ l.length ≤ i ∧ ∀ y ∈ l, y.1.length ≤ 2, h₁, congrArg Value.ref (Heap.size_push ..), ⟨fun C => Src.name (Walks.range R'.hh (h₁.objs.size + 1) 0 1 m) (by rfl) (by rfl), ?_, ?_, ?_, ?_, ?_, ?_, ?_, ?_, ?_⟩, ?_⟩
  · exact Nat.le_trans (by omega : m ≤ 4) (by decide)
  · have := rangeIter_new h₁ { cls := .type "range", data := .fields #[Value.int 0 (tk₁ + 1 + 1 + 1), Value.int (m : Int) (tk₁ + 1 + 1), Value.int 1 (tk₁ + 1 + 1 + 1 + 1)] } 0 m 1
    simpa using this
  · intro b hb
    rw [List.mem_singleton] at hb
    dsimp only
    rw [Heap.size_push, Heap.size_push]
    omega
  · exact stays_push (stays_push (stays_refl _) _) _
  · dsimp only
    rw [Heap.size_push, Heap.size_push]
    omega
  · intro b hb
    rw [List.mem_singleton] at hb
    subst hb
    exact Heap.get?_none_of_le (Nat.le_succ _)
  · exact fun N h => ⟨[], rfl, Nat.le_refl _, fun y hy => by cases hy⟩
  · exact fun N i ys h h' K k => K
  · rintro N C i ys bs s₃ E₃ hi ⟨v, ⟨u, rfl⟩, rfl⟩ hN hN' F₃ ⟨l, rfl, hli, hl2⟩
    refine tests_nil ?_
    rw [if_pos rfl]
    have G₃ := G₁.keeps F₃.keep
    have hcell₃ : s₃.heap.IsCell (s.heap.objs.size + 1) (some (.int n t)) := hcell.keeps F₃.keep
    refine Subscript_ (wpAny_mono (Q := fun o s₁ => ∃ (lv : List Value) (tk : Nat), lv.length = 8 ∧ (∀ v ∈ lv, ∃ x t, v = .str x t ∧ x.length ≤ 2) ∧ o = .ref s₃.heap.objs.size ∧ s₁ = { s₃ with heap := s₃.heap.push (lstO lv), toks := tk }) ?_ (fun o s₁ hq => ?_) (fun _ _ e => e))
    · refine wpAny_List (args_cons (wpAny_Constant_str (args_cons (wpAny_Constant_str (args_cons (wpAny_Constant_str (args_cons (wpAny_Constant_str (args_cons (callB G₃ (by rfl) boot_chr (args_cons (wpAny_Constant_int (args_nil (chr_of_range (by decide) (by decide) (args_cons (wpAny_Constant_str (args_cons (wpAny_Constant_str (args_cons (callB G₃ (by rfl) boot_chr (args_cons (wpAny_Constant_int (args_nil (chr_of_range (by decide) (by decide) (args_nil ⟨by show 8 ≤ sizeLine; decide, ?_⟩)))))))))))))))))))))))))
      refine ⟨[_, _, _, _, _, _, _, _], _, rfl, ?_, rfl, rfl⟩
      simp only [List.forall_mem_cons]
      exact ⟨⟨_, _, rfl, by decide⟩, ⟨_, _, rfl, by decide⟩, ⟨_, _, rfl, by decide⟩, ⟨_, _, rfl, by decide⟩, ⟨_, _, rfl, by decide⟩, ⟨_, _, rfl, by decide⟩, ⟨_, _, rfl, by decide⟩, ⟨_, _, rfl, by decide⟩, nofun⟩
    obtain ⟨lv, tk₄, hlen, hall, rfl, rfl⟩ := hq
    have G₄ := G₃.keeps (stays_push (stays_refl s₃.heap) (lstO lv))
    have hl₄ := (PlainList.new s₃.heap lv).isList
    refine wpAny_BinOp (wpAny_BinOp (wpAny_BinOp (nmC (c := s.heap.objs.size + 1) (by rfl) (hcell₃.keeps (stays_push (stays_refl s₃.heap) (lstO lv))) (wpAny_Constant_int (floordiv_int (by decide) ?_)))))
    obtain ⟨z, ez, hz⟩ : ∃ z : Int, (9 : Int) ^ (0 + (i : Nat) * 1 : Int).toNat = z ∧ 0 < z ∧ z < 1000 := pow9 i (by omega)
    refine wpAny_BinOp (wpAny_Constant_int (nmL (F₃.push _) (powZ (n := (0 + (i : Nat) * 1 : Int)) ez (by omega) (by omega) (by decide) ?_)))
    refine floordiv_int (by omega) ?_ (Or.inl (PyProof.noPylong_small (by omega)))
    refine wpAny_Constant_int (mod_int' (by decide) ?_)
    have h0 := Int.fmod_nonneg_of_pos ((n.fdiv 8).fdiv z) (show (0 : Int) < 8 by decide)
    have h8 := Int.fmod_lt_of_pos ((n.fdiv 8).fdiv z) (show (0 : Int) < 8 by decide)
    generalize ((n.fdiv 8).fdiv z).fmod 8 = k at h0 h8
    have hk : k.toNat < lv.length := by omega
    have hkx : (lv.toArray)[k.toNat]? = some lv[k.toNat] := by simp [hk]
    refine tail_any (ops := [.ref s₃.heap.objs.size, .int k _]) hl₄.typeIs slot_list_getitem.lookup (wpAny_getItem_list (x := lv[k.toNat]) hl₄ h0 (by omega) hkx ?_) (by rfl)
    obtain ⟨x, u', ex, hx2⟩ := hall _ (List.getElem_mem hk)
    rw [ex]
    exact ⟨_, _, rfl, stays_push (stays_refl _) _, l ++ [(x, u')], by simp [strValues], by simp; omega, fun y hy => by
      rcases List.mem_append.mp hy with hy | hy
      · exact hl2 y hy
      · rw [List.mem_singleton.mp hy]; exact hx2⟩
  · rintro D h₃ tk₃ ys N n₃ ⟨l, rfl, hli, hl2⟩ hN
    have hsum : ((l.map (·.1)).map (·.length)).sum ≤ l.length * 2 := by
      have := StrLaws.sumLen_le (B := 2) (l.map (·.1)) (by
        intro y hy
        obtain ⟨z, hz, rfl⟩ := List.mem_map.mp hy
        exact hl2 z hz)
      simpa using this
    have hs0 : (Str.ofString "").length = 0 := by decide
    refine args_nil (SC.join n₃.list rfl (joinOk_of (by rw [hs0]; omega)) fun t' tk' => ?_)
    refine h h₃ tk' _ t' ⟨stays_trans F.keep n₃.stays, by have := n₃.size; omega⟩ ?_
    have := StrLaws.join_length_le (Str.ofString "") (l.map (·.1))
    show (Builtin.Str.glued _ _).length ≤ 100
    rw [StrLaws.glued_eq_join]
    rw [hs0] at this
    omega
end
end Mine

namespace Mine
/-! ## x <= y of two lists of ints -/
def leI : List Int → List Int → Bool
  | [], _ => true
  | _ :: _, [] => false
  | x :: xs, y :: ys => if x = y then leI xs ys else decide (x ≤ y)
open AutoSeq1 (wpAny_loadPart') in
open MeetsSeq MeetsSeq2 MeetsSeq3 in
theorem le_loop (l b : Addr) (items items2 : Array Value) (n n2 : Nat) (ns ms : List Int) (hi : IntsAre items.toList ns) (hj : IntsAre items2.toList ms) (k : Nat) :
    ∀ i : Nat, ns.length - i = k → i ≤ ns.length → i ≤ ms.length → Meets (Builtin.«list.__eq__.loop» ⟨[.ref l, .ref b, rawInt i, rawInt 1], []⟩)
      (fun _ R s => s.heap.get? l = some { cls := .type "list", dict := none, data := .seq items n, slots := #[] } ∧ s.heap.get? b = some { cls := .type "list", dict := none, data := .seq items2 n2, slots := #[] } ∧
        R (.ok (.ret (.bool (leI (ns.drop i) (ms.drop i))))) s) := by
  have z1 : items.size = ns.length := by simpa using hi.length
  have z2 : items2.size = ms.length := by simpa using hj.length
  induction k with
  | zero =>
    intro i hk h1 h2 prog w A R s h
    obtain ⟨hp, g, d, tk, os⟩ := s; obtain ⟨hl, hb, h⟩ := h
    wp_walk using wpAny_loadPart' hl, wpAny_loadPart' hb
    have hi1 : items[((i : Nat) : Int).toNat]? = none := by simp; omega
    have hd : ns.drop i = [] := by simp; omega
    have e : i = ns.length := by omega
    rw [hd] at h
    rw [hi1]
    wp_walk using wpAny_loadPart' hl, wpAny_loadPart' hb
    show R (.ok (.ret (.bool (decide (items.size ≤ items2.size))))) _
    rw [decide_eq_true (by omega)]
    exact h
  | succ k ih =>
    intro i hk h1 h2 prog w A R s h
    obtain ⟨hp, g, d, tk, os⟩ := s; obtain ⟨hl, hb, h⟩ := h
    wp_walk using wpAny_loadPart' hl, wpAny_loadPart' hb
    have hlt : i < ns.length := by omega
    obtain ⟨t, et⟩ := hi.get i ns[i] (List.getElem?_eq_getElem hlt)
    have hi1 : items[((i : Nat) : Int).toNat]? = some (.int ns[i] t) := by simpa using et
    rw [List.drop_eq_getElem_cons hlt] at h
    by_cases hlt2 : i < ms.length
    · obtain ⟨u, eu⟩ := hj.get i ms[i] (List.getElem?_eq_getElem hlt2)
      have hi2 : items2[((i : Nat) : Int).toNat]? = some (.int ms[i] u) := by simpa using eu
      rw [List.drop_eq_getElem_cons hlt2, leI] at h
      have hc : ((i : Int) + 1) = ((i + 1 : Nat) : Int) := by push_cast; rfl
      rw [hi1, hi2]
      refine wpAny_bind (EqGives.int ns[i] ms[i] t u prog w _ _ _ _ ?_)
      by_cases hb' : ns[i] = ms[i]
      · rw [if_pos hb'] at h
        rw [show (ns[i] == ms[i]) = true by simpa using hb']
        wp_walk
        rw [hc]
        exact ⟨plainId_quiet plain_eq_loop _, codeAny_builtin entry_eq_loop (by
          rw [Around.under_plainId plain_eq_loop _]
          exact ih (i + 1) (by omega) hlt hlt2 prog w A R _ ⟨hl, hb, h⟩)⟩
      · rw [if_neg hb'] at h
        rw [show (ns[i] == ms[i]) = false by simpa using hb']
        wp_walk using wpAny_loadPart' hl, wpAny_loadPart' hb
        rw [hi1, hi2]
        refine wpAny_bind (le_int (Q := fun v s' => wpAny (model prog w) A.in1 (ret v) _ _ s') ?_)
        wp_walk
        exact h
    · have hi2 : items2[((i : Nat) : Int).toNat]? = none := by simp; omega
      have hd : ms.drop i = [] := by simp; omega
      rw [hd] at h
      rw [hi1, hi2]
      wp_walk using wpAny_loadPart' hl, wpAny_loadPart' hb
      show R (.ok (.ret (.bool (decide (items.size ≤ items2.size))))) _
      rw [decide_eq_false (by omega)]
      exact h
open AutoSeq1 (wpAny_loadPart') in
open MeetsSeq MeetsSeq2 MeetsSeq3 in
theorem list_leM (l b : Addr) (items items2 : Array Value) (n n2 : Nat) (ns ms : List Int) (hi : IntsAre items.toList ns) (hj : IntsAre items2.toList ms) :
    Meets (Builtin.«list.__le__» ⟨[.ref l, .ref b], []⟩)
      (fun _ R s => s.heap.get? l = some { cls := .type "list", dict := none, data := .seq items n, slots := #[] } ∧ s.heap.get? b = some { cls := .type "list", dict := none, data := .seq items2 n2, slots := #[] } ∧
        R (.ok (.ret (.bool (leI ns ms)))) s) := by
  intro prog w A R s h
  obtain ⟨hp, g, d, tk, os⟩ := s; obtain ⟨hl, hb, h⟩ := h
  have f3 := AutoSeq1.sub_list_list
  wp_walk using wpAny_loadPart' hl, wpAny_loadPart' hb
  exact ⟨plainId_quiet plain_eq_loop _, codeAny_builtin entry_eq_loop (by
    rw [Around.under_plainId plain_eq_loop _]
    exact le_loop l b items items2 n n2 ns ms hi hj _ 0 rfl (Nat.zero_le _) (Nat.zero_le _) prog w A R _ ⟨hl, hb, h⟩)⟩

section
variable {prog : Program} {w : World} {A : Around} {E : Value → Shared → Prop} {s : Shared}
theorem le_lists {l b : Addr} {xs ys : List Value} {ns ms : List Int} {Q : Value → Shared → Prop} (hu : A.units < cLine) (hl : s.heap.PlainList l xs.toArray) (hb : s.heap.PlainList b ys.toArray) (hi : IntsAre xs ns) (hj : IntsAre ys ms)
    (h : Q (.bool (leI ns ms)) s) : wpAny (model prog w) A (compareOp .LtE (.ref l) (.ref b)) Q E s := by
  obtain ⟨n, ho⟩ := hl
  obtain ⟨n2, ho2⟩ := hb
  show wpAny _ _ (richCompare .LtE _ _) _ _ _
  exact richCompare_meets_room (op := .LtE) ⟨_, ho, rfl⟩ ⟨_, ho2, rfl⟩ F.slot_list_le F.entry_list_le (F.args_list_le_2 _ _) (list_leM l b xs.toArray ys.toArray n n2 ns ms hi hj) ⟨ho, ho2, (fun x => nomatch x), h⟩ hu
end
end Mine

namespace Mine
/-! ## the laws, with no program in sight -/
section
variable {α β : Type}
/-- a relation that any two values meet one way, and that carries on -/
structure Pre (le : α → α → Bool) : Prop where
  total : ∀ x y, le x y = true ∨ le y x = true
  trans : ∀ x y z, le x y = true → le y z = true → le x z = true
theorem ins_nil (le : α → α → Bool) (p : α) : ins le p [] = [p] := rfl
theorem ins_cons (le : α → α → Bool) (p x : α) (l : List α) : ins le p (x :: l) = if le x p = true then x :: ins le p l else p :: x :: l := by
  unfold ins
  by_cases h : le x p = true
  · simp [h]
  · simp [h]
theorem mrg_cons (b : α → α → Bool) (x y : α) (xs ys : List α) : mrg b (x :: xs) (y :: ys) = if b x y = true then y :: mrg b (x :: xs) ys else x :: mrg b xs (y :: ys) := by rw [mrg]
theorem mrg_ins {le : α → α → Bool} (P : Pre le) (p : α) : ∀ (xs ys : List α), mrg (fun x y => !le x y) xs (ins le p ys) = ins le p (mrg (fun x y => !le x y) xs ys)
  | [], ys => by rw [mrg_nil_left, mrg_nil_left]
  | x :: xs, [] => by
    have ih := mrg_ins P p xs []
    rw [ins_nil] at ih ⊢
    rw [mrg_nil_right] at ih ⊢
    rw [mrg_cons, ins_cons]
    by_cases h : le x p = true
    · rw [if_neg (by simp [h]), if_pos h, ih]
    · rw [if_pos (by simp [h]), if_neg h, mrg_nil_right]
  | x :: xs, y :: ys => by
    have ih1 := mrg_ins P p xs (y :: ys)
    have ih2 := mrg_ins P p (x :: xs) ys
    rw [ins_cons] at ih1
    rw [ins_cons, mrg_cons]
    by_cases hy : le y p = true
    · rw [if_pos hy] at ih1 ⊢
      rw [mrg_cons]
      by_cases hx : le x y = true
      · rw [if_neg (by simp [hx]), if_neg (by simp [hx]), ins_cons, if_pos (P.trans _ _ _ hx hy), ih1]
      · rw [if_pos (by simp [hx]), if_pos (by simp [hx]), ins_cons, if_pos hy, ih2]
    · rw [if_neg hy] at ih1 ⊢
      rw [mrg_cons]
      by_cases hx : le x y = true
      · rw [if_neg (by simp [hx] : ¬ (!le x y) = true), ins_cons]
        by_cases hp : le x p = true
        · rw [if_neg (by simp [hp]), if_pos hp, ih1]
        · rw [if_pos (by simp [hp]), if_neg hp, mrg_cons, if_neg (by simp [hx])]
      · have hp : ¬ le x p = true := fun h => hy (P.trans _ _ _ ((P.total x y).resolve_left hx) h)
        rw [if_pos (by simp [hx] : (!le x y) = true), ins_cons, if_neg hy, if_pos (by simp [hp]), mrg_cons, if_pos (by simp [hx])]
termination_by xs ys => xs.length + ys.length
theorem mrg_foldl {le : α → α → Bool} (P : Pre le) (xs : List α) : ∀ (vs l : List α), mrg (fun x y => !le x y) xs (vs.foldl (fun l p => ins le p l) l) = vs.foldl (fun l p => ins le p l) (mrg (fun x y => !le x y) xs l)
  | [], _ => rfl
  | p :: vs, l => by rw [List.foldl_cons, List.foldl_cons, mrg_foldl P xs vs, mrg_ins P]
/-- two plainly sorted lists merged -/
theorem mrg_plain {le : α → α → Bool} (P : Pre le) (l₁ l₂ : List α) : mrg (fun x y => !le x y) (plainL le l₁) (plainL le l₂) = plainL le (l₁ ++ l₂) := by
  unfold plainL
  rw [mrg_foldl P, mrg_nil_right, List.foldl_append]
theorem pass_plain {le : α → α → Bool} (P : Pre le) : ∀ ls : List (List α), ∃ ls' : List (List α), pass (fun x y => !le x y) (ls.map (plainL le)) = ls'.map (plainL le) ∧ ls'.flatten = ls.flatten ∧ ls'.length = (ls.length + 1) / 2
  | [] => ⟨[], rfl, rfl, by simp⟩
  | [l] => ⟨[l], rfl, rfl, by simp⟩
  | x :: y :: r => by
    obtain ⟨ls', h1, h2, h3⟩ := pass_plain P r
    refine ⟨(x ++ y) :: ls', ?_, by simp [h2], by simp only [List.length_cons, h3]; omega⟩
    simp only [List.map_cons, pass, h1, mrg_plain P]
theorem srt_plain {le : α → α → Bool} (P : Pre le) : ∀ (n : Nat) (ls : List (List α)), ls.length = n → srt (fun x y => !le x y) (ls.map (plainL le)) = plainL le ls.flatten := by
  intro n
  induction n using Nat.strongRecOn with
  | ind n ih =>
    intro ls hn
    rw [srt]
    by_cases h : (ls.map (plainL le)).length ≤ 1
    · rw [dif_pos h]
      rw [List.length_map] at h
      match ls, h with
      | [], _ => rfl
      | [l], _ => simp
    · rw [dif_neg h]
      rw [List.length_map] at h
      obtain ⟨ls', h1, h2, h3⟩ := pass_plain P ls
      rw [h1, ih _ (by omega) ls' h3, h2]
/-- the merge sort by «not x <= y» is the plain sort -/
theorem msort_plain {le : α → α → Bool} (P : Pre le) (l : List α) : msort (fun x y => !le x y) l = plainL le l := by
  have := srt_plain P _ (l.map fun x => [x]) rfl
  rw [List.map_map, flatten_singles] at this
  exact this

/-! maps -/
theorem mrg_map (b : β → β → Bool) (f : α → β) : ∀ xs ys : List α, (mrg (fun x y => b (f x) (f y)) xs ys).map f = mrg b (xs.map f) (ys.map f)
  | [], ys => by simp [mrg_nil_left]
  | x :: xs, [] => by simp [mrg_nil_right]
  | x :: xs, y :: ys => by
    rw [mrg_cons, List.map_cons, List.map_cons, mrg_cons]
    by_cases h : b (f x) (f y) = true
    · rw [if_pos h, if_pos h, List.map_cons, mrg_map b f (x :: xs) ys, List.map_cons]
    · rw [if_neg h, if_neg h, List.map_cons, mrg_map b f xs (y :: ys), List.map_cons]
termination_by xs ys => xs.length + ys.length
theorem pass_map (b : β → β → Bool) (f : α → β) : ∀ ls : List (List α), (pass (fun x y => b (f x) (f y)) ls).map (List.map f) = pass b (ls.map (List.map f))
  | [] => rfl
  | [_] => rfl
  | x :: y :: r => by simp only [List.map_cons, pass, mrg_map b f, pass_map b f r]
theorem srt_map (b : β → β → Bool) (f : α → β) : ∀ (n : Nat) (ls : List (List α)), ls.length = n → (srt (fun x y => b (f x) (f y)) ls).map f = srt b (ls.map (List.map f)) := by
  intro n
  induction n using Nat.strongRecOn with
  | ind n ih =>
    intro ls hn
    rw [srt]
    conv => rhs; rw [srt]
    by_cases h : ls.length ≤ 1
    · rw [dif_pos h, dif_pos (by simpa using h)]
      match ls, h with
      | [], _ => rfl
      | [l], _ => rfl
    · rw [dif_neg h, dif_neg (by simpa using h), ih _ (by rw [pass_length]; omega) _ rfl, pass_map]
theorem msort_map (b : β → β → Bool) (f : α → β) (l : List α) : (msort (fun x y => b (f x) (f y)) l).map f = msort b (l.map f) := by
  unfold msort
  rw [srt_map b f _ _ rfl, List.map_map, List.map_map]
  rfl
theorem ins_map (le : β → β → Bool) (f : α → β) (p : α) : ∀ l : List α, (ins (fun x y => le (f x) (f y)) p l).map f = ins le (f p) (l.map f)
  | [] => rfl
  | x :: l => by
    rw [ins_cons, List.map_cons, ins_cons]
    by_cases h : le (f x) (f p) = true
    · rw [if_pos h, if_pos h, List.map_cons, ins_map le f p l]
    · rw [if_neg h, if_neg h]; rfl
theorem foldl_ins_map (le : β → β → Bool) (f : α → β) : ∀ (vs l : List α), (vs.foldl (fun l p => ins (fun x y => le (f x) (f y)) p l) l).map f = (vs.map f).foldl (fun l p => ins le p l) (l.map f)
  | [], _ => rfl
  | p :: vs, l => by rw [List.foldl_cons, foldl_ins_map le f vs, ins_map, List.map_cons, List.foldl_cons]
theorem plainL_map (le : β → β → Bool) (f : α → β) (l : List α) : (plainL (fun x y => le (f x) (f y)) l).map f = plainL le (l.map f) := foldl_ins_map le f l []

/-! a plain sort by keys that are all apart does not see the order -/
theorem ins_comm {le : α → α → Bool} (P : Pre le) (anti : ∀ x y, le x y = true → le y x = true → x = y) (p q : α) : ∀ l : List α, ins le p (ins le q l) = ins le q (ins le p l)
  | [] => by
    rw [ins_nil, ins_nil, ins_cons, ins_cons, ins_nil, ins_nil]
    by_cases h1 : le q p = true <;> by_cases h2 : le p q = true
    · rw [anti _ _ h1 h2]
    · rw [if_pos h1, if_neg h2]
    · rw [if_neg h1, if_pos h2]
    · exact absurd ((P.total p q).resolve_left h2) h1
  | x :: l => by
    have ih := ins_comm P anti p q l
    rw [ins_cons le q, ins_cons le p]
    by_cases hq : le x q = true <;> by_cases hp : le x p = true
    · rw [if_pos hq, if_pos hp, ins_cons, ins_cons, if_pos hp, if_pos hq, ih]
    · rw [if_pos hq, if_neg hp, ins_cons, if_neg hp, ins_cons]
      rw [if_pos (P.trans _ _ _ ((P.total x p).resolve_left hp) hq), ins_cons, if_pos hq]
    · rw [if_neg hq, if_pos hp, ins_cons le q x, if_neg hq, ins_cons le p q]
      rw [if_pos (P.trans _ _ _ ((P.total x q).resolve_left hq) hp), ins_cons, if_pos hp]
    · rw [if_neg hq, if_neg hp, ins_cons le p, ins_cons le q, ins_cons le p, ins_cons le q, if_neg hp, if_neg hq]
      by_cases h1 : le q p = true <;> by_cases h2 : le p q = true
      · rw [anti _ _ h1 h2]
      · rw [if_pos h1, if_neg h2]
      · rw [if_neg h1, if_pos h2]
      · exact absurd ((P.total p q).resolve_left h2) h1
theorem plainL_of_perm {le : α → α → Bool} (P : Pre le) (anti : ∀ x y, le x y = true → le y x = true → x = y) {l₁ l₂ : List α} (h : l₁.Perm l₂) : plainL le l₁ = plainL le l₂ := by
  unfold plainL
  exact h.foldl_eq' (fun x _ y _ z => ins_comm P anti y x z) []
end
theorem pre_int {α : Type} (f : α → Int) : Pre fun x y => decide (f x ≤ f y) :=
  ⟨fun x y => by simp only [decide_eq_true_eq]; omega, fun x y z h1 h2 => by simp only [decide_eq_true_eq] at *; omega⟩
theorem not_le_gt {α : Type} (f : α → Int) : (fun x y => !decide (f x ≤ f y)) = fun x y => decide (f y < f x) := by
  funext x y
  by_cases h : f x ≤ f y
  · rw [decide_eq_true h, decide_eq_false (by omega)]; rfl
  · rw [decide_eq_false h, decide_eq_true (by omega)]; rfl
theorem msort_int {α : Type} (f : α → Int) (l : List α) : msort (fun x y => decide (f y < f x)) l = plainL (fun x y => decide (f x ≤ f y)) l := by
  rw [← not_le_gt]
  exact msort_plain (pre_int f) l
end Mine

namespace Mine
theorem leI_total : ∀ xs ys : List Int, leI xs ys = true ∨ leI ys xs = true
  | [], _ => .inl rfl
  | _ :: _, [] => .inr rfl
  | x :: xs, y :: ys => by
    rw [leI, leI]
    by_cases h : x = y
    · rw [if_pos h, if_pos h.symm]; exact leI_total xs ys
    · rw [if_neg h, if_neg (Ne.symm h)]; simp only [decide_eq_true_eq]; omega
theorem leI_trans : ∀ xs ys zs : List Int, leI xs ys = true → leI ys zs = true → leI xs zs = true
  | [], _, _, _, _ => rfl
  | x :: xs, [], _, h, _ => by simp [leI] at h
  | x :: xs, y :: ys, [], _, h => by simp [leI] at h
  | x :: xs, y :: ys, z :: zs, h1, h2 => by
    rw [leI] at h1 h2 ⊢
    by_cases a : x = y
    · by_cases b : y = z
      · rw [if_pos a] at h1; rw [if_pos b] at h2; rw [if_pos (a.trans b)]; exact leI_trans xs ys zs h1 h2
      · subst a; rw [if_neg b] at h2 ⊢; exact h2
    · by_cases b : y = z
      · subst b; rw [if_neg a] at h1 ⊢; exact h1
      · rw [if_neg a] at h1; rw [if_neg b] at h2
        simp only [decide_eq_true_eq] at h1 h2
        rw [if_neg (by omega)]; simp only [decide_eq_true_eq]; omega
theorem leI_pre {α : Type} (f : α → List Int) : Pre fun x y => leI (f x) (f y) := ⟨fun x y => leI_total _ _, fun x y z => leI_trans _ _ _⟩
theorem leI_nat : ∀ xs ys : List Nat, decide (ys < xs) = !leI (xs.map Int.ofNat) (ys.map Int.ofNat)
  | [], ys => by simp [leI]
  | x :: xs, [] => by simp [leI]
  | x :: xs, y :: ys => by
    rw [List.map_cons, List.map_cons, leI]
    by_cases h : x = y
    · subst h
      rw [if_pos rfl, ← leI_nat xs ys]
      simp [List.cons_lt_cons_iff]
    · rw [if_neg (by intro z; exact h (Int.ofNat.inj z))]
      rw [Bool.eq_iff_iff]
      simp only [decide_eq_true_eq, Bool.not_eq_true', decide_eq_false_iff_not, List.cons_lt_cons_iff]
      constructor
      · rintro (h1 | ⟨h1, _⟩)
        · intro z; have := Int.ofNat_le.mp z; omega
        · exact absurd h1.symm h
      · intro z
        left
        have : ¬ x ≤ y := fun z' => z (Int.ofNat_le.mpr z')
        omega
end Mine

namespace Mine
local macro_rules | `(tactic| tb_start) => `(tactic| repeat' (first | exact List.forall_mem_nil _ | refine List.forall_mem_cons.mpr ⟨?_, ?_⟩ | exact Or.inl rfl | exact Or.inr ⟨by (dsimp only; decide), by k_mem⟩))
/-! ## what the values of a heap are, as functions -/
def seqOf : Data → List Value
  | .seq xs _ => xs.toList
  | _ => []
def itemsAt (H : Heap) : Value → List Value
  | .ref a => match H.get? a with
    | some o => seqOf o.data
    | none => []
  | _ => []
def itemAt (H : Heap) (i : Nat) (v : Value) : Value := (itemsAt H v)[i]?.getD .none
theorem itemsAt_tup {H : Heap} {T : Addr} {its : Array Value} (h : IsTup H T its) : itemsAt H (.ref T) = its.toList := by
  obtain ⟨o, e, hc, n, hd⟩ := h
  simp only [itemsAt, e, hd, seqOf]
theorem itemsAt_list {H : Heap} {T : Addr} {its : Array Value} (h : H.PlainList T its) : itemsAt H (.ref T) = its.toList := by
  obtain ⟨n, e⟩ := h
  simp only [itemsAt, e, seqOf]
theorem itemAt_tup {H : Heap} {T : Addr} {its : List Value} (h : IsTup H T its.toArray) (i : Nat) : itemAt H i (.ref T) = its[i]?.getD .none := by
  unfold itemAt; rw [itemsAt_tup h]
theorem item_of_tup {H : Heap} {T : Addr} {its : List Value} (h : IsTup H T its.toArray) (i : Nat) (hi : i < its.length) : Item H i (.ref T) (itemAt H i (.ref T)) :=
  ⟨T, its, rfl, h, by rw [itemAt_tup h, List.getElem?_eq_getElem hi]; rfl⟩
theorem ints_of : ∀ (vs : List Value), (∀ v ∈ vs, ∃ i t, v = .int i t) → IntsAre vs (vs.map intOf)
  | [], _ => .nil
  | v :: vs, h => by
    obtain ⟨i, t, rfl⟩ := h v (List.mem_cons_self ..)
    exact .cons i t (ints_of vs fun u hu => h u (List.mem_cons_of_mem _ hu))
theorem ints_map : ∀ {vs : List Value} {ns : List Int}, IntsAre vs ns → vs.map intOf = ns
  | _, _, .nil => rfl
  | _, _, .cons n t r => by rw [List.map_cons, ints_map r]; rfl
theorem get_snoc {α : Type} {ys : List α} {y v : α} {j : Nat} (h : (ys ++ [y])[j]? = some v) : ys[j]? = some v ∨ (j = ys.length ∧ v = y) := by
  rcases Nat.lt_trichotomy j ys.length with hj | hj | hj
  · rw [List.getElem?_append_left hj] at h; exact .inl h
  · subst hj; rw [List.getElem?_append_right (Nat.le_refl _), Nat.sub_self] at h
    exact .inr ⟨rfl, by simpa using h.symm⟩
  · rw [List.getElem?_eq_none (by simp; omega)] at h; cases h
theorem texts_same (H : Heap) (ys zs : List Value) (hd : ys.map (fun v => ((strOf (itemAt H 0 v)).map Int.ofNat, intOf (itemAt H 1 v))) = zs.map (fun v => ((itemsAt H (itemAt H 0 v)).map intOf, intOf (itemAt H 1 v)))) :
    ((msort (fun v u => textGt (itemAt H 0 v) (itemAt H 0 u)) ys).map (itemAt H 1)).map intOf = ((plainL (fun v u => leI ((itemsAt H (itemAt H 0 v)).map intOf) ((itemsAt H (itemAt H 0 u)).map intOf)) zs).map (itemAt H 1)).map intOf := by
  have h1 := msort_map (fun p q : List Int × Int => !leI p.1 q.1) (fun v => ((strOf (itemAt H 0 v)).map Int.ofNat, intOf (itemAt H 1 v))) ys
  have h2 := plainL_map (fun p q : List Int × Int => leI p.1 q.1) (fun v => ((itemsAt H (itemAt H 0 v)).map intOf, intOf (itemAt H 1 v))) zs
  have e : (fun v u => textGt (itemAt H 0 v) (itemAt H 0 u)) = fun v u => !leI ((strOf (itemAt H 0 v)).map Int.ofNat) ((strOf (itemAt H 0 u)).map Int.ofNat) := by
    funext v u
    exact leI_nat _ _
  rw [e]
  rw [msort_plain (leI_pre Prod.fst), hd, ← h2] at h1
  have := congrArg (List.map Prod.snd) h1
  rw [List.map_map, List.map_map] at this
  rw [List.map_map, List.map_map]
  exact this
section
variable {prog : Program} {w : World} {p : Program} {loose : List Str} {mean : ExcName → Option Value} {mg mb : Str → Option Value}
abbrev PairsK (N i : Nat) (ys : List Value) (h : Heap) : Prop := ys.length = i ∧ ∀ (j : Nat) v, ys[j]? = some v → ∃ (T : Nat) (x : Str) (t u : Tok), v = .ref T ∧ N ≤ T ∧ IsTup h T [Value.str x t, .int j u].toArray ∧ x.length ≤ 100
set_option maxHeartbeats 4000000 in
theorem texts_right_spec {A : Around} {s : Shared} {a : Addr} {vs : List Value} {ns : List Int} {Q E : Value → Shared → Prop} (R : Room A 10) (G : GD p loose mean mg mb w s.heap) (hl : s.heap.IsList a vs.toArray) (hi' : IntsAre vs ns) (hsz : vs.length ≤ 24)
    (h : ∀ h' tk, Gro none s.heap h' → Q (.bool true) { s with heap := h', toks := tk }) :
    wpAny (model prog w) A (call (.ref 104) [.ref a]) Q E s := by
  refine callDef (binds := [(Str.ofString "numbers", .ref a)]) R (G.X 104 _ (by rfl)) rfl G.T.nolimit (codeRec_of G.X (by rfl)) rfl (by rfl) (by decide) (locs rfl) (of_decide_eq_true rfl) (fun h₁ A' E' R' F => ?_) rfl rfl rfl
  show wpAny _ _ (execs _ (envX (Str.ofString "_law_texts_right") _ s.heap.objs.size 104 (.ref 103) [])) _ _ _
  have hL1 : @LT.lt Nat _ s.heap.objs.size h₁.objs.size := F.lo.lt
  have G₁ := G.keeps F.keep
  have hl₁ := isList_stays hl F.keep
  have hal : @LT.lt Nat _ a s.heap.objs.size := isList_lt hl
  refine wpAny_execs_cons (lcA (env := envX (Str.ofString "_law_texts_right") _ s.heap.objs.size 104 (.ref 103) []) (cl := []) (S := s.heap) (L := s.heap.objs.size) (l := [(Str.ofString "numbers", .ref a)]) (by rfl) (by rfl) (by decide) (by rfl) (by decide)
    (callTy G₁ (by rfl) boot_enumerate (args_cons (nmL F (args_nil (call_enumerate_list hl₁ fun h₂ he hit hsz₂ hk₂ => ?_))))) (hy := by intro p hp; rw [List.mem_singleton.mp hp]; dsimp only; decide))
  have hsz₂' : h₂.objs.size = h₁.objs.size + 2 := hsz₂
  have W := (WalksT.enumerate (prog := prog) (w := w) R'.hh (h₁.objs.size + 1) h₁.objs.size a (neA (by omega)) (neA (by omega)) (neA (by omega)) vs.toArray).toU
  refine W.self 0 _ _ _ ⟨⟨_, he⟩, hit, isList_stays hl₁ hk₂⟩ ⟨h₁.objs.size + 1, _, _, _, _, _, PairsK, h₁, rfl, ⟨fun C => Src.pair W R'.hh (by rfl) (by rfl) (by rfl) (by decide) (fun i vals ⟨t, x, _, e⟩ => ⟨_, _, e⟩), ?_, ⟨⟨_, he⟩, hit, isList_stays hl₁ hk₂⟩, ?_, hk₂, ?_, ?_, ?_, ?_, ?_⟩, F, ?_⟩
  · rw [List.size_toArray]; exact Nat.le_trans hsz (by decide)
  · intro b hb
    simp only [List.mem_cons, List.not_mem_nil, or_false] at hb
    dsimp only
    omega
  · dsimp only; omega
  · intro b hb
    simp only [List.mem_cons, List.not_mem_nil, or_false] at hb
    exact Heap.get?_none_of_le (by rcases hb with rfl | rfl <;> omega)
  · exact fun N h => ⟨rfl, fun j v e => by cases e⟩
  · exact fun N i ys h h' K k => ⟨K.1, fun j v e => by
      obtain ⟨T, x, t, u, rfl, hN, hT, hx⟩ := K.2 j v e
      obtain ⟨o, e, r⟩ := hT
      exact ⟨T, x, t, u, rfl, hN, ⟨o, k T o hN e, r⟩, hx⟩⟩
  · rintro N C i ys bs s₃ E₃ hi ⟨a', b', ⟨t, x, hx, e⟩, rfl⟩ hN hN' F₃ K₃
    obtain ⟨ea, eb⟩ : a' = .int i t ∧ b' = x := by
      have := congrArg Array.toList e
      simpa using this
    subst ea eb
    have hvi : vs[i]? = some b' := by simpa using hx
    obtain ⟨m, um, rfl, _⟩ := hi'.at i b' hvi
    refine tests_nil ?_
    rw [if_pos rfl]
    have G₃ := G₁.keeps F₃.keep
    refine wpAny_Tuple (args_cons (callG G₃ (by rfl) (by rfl) rfl (args_cons (nmL F₃ (args_nil ⟨G₃, text_spec R' G₃ fun h₄ tk₄ y u g₄ hy => ?_⟩)))))
    refine args_cons (nmL (F₃.gro₀ g₄) (args_nil ⟨by show 2 ≤ sizeLine; decide, _, _, rfl, stays_push g₄.stays _, ?_, fun j v e => ?_⟩))
    · simp [K₃.1]
    · rcases get_snoc e with e | ⟨rfl, rfl⟩
      · obtain ⟨T, x, t, u, rfl, hN, hT, hx⟩ := K₃.2 j v e
        exact ⟨T, x, t, u, rfl, hN, isTup_stays hT (stays_push g₄.stays _), hx⟩
      · have := g₄.size
        rw [K₃.1]
        exact ⟨_, y, u, _, rfl, by show N ≤ h₄.objs.size; omega, IsTup.new _ _, hy⟩
  · rintro D h₃ tk₃ ys N keep₃ hz₃ hD P₃ K₃ hN F₃
    simp only [List.size_toArray] at K₃
    obtain ⟨ylen, yall⟩ := K₃
    have ytup : ∀ j, j < ys.length → ∃ (T : Nat) (x : Str) (t u : Tok), ys[j]? = some (.ref T) ∧ N ≤ T ∧ IsTup h₃ T [Value.str x t, .int j u].toArray ∧ x.length ≤ 100 := fun j hj => by
      obtain ⟨T, x, t, u, e, r⟩ := yall j ys[j] (List.getElem?_eq_getElem hj)
      exact ⟨T, x, t, u, by rw [List.getElem?_eq_getElem hj, e], r⟩
    obtain ⟨Ts, hTs⟩ : ∃ Ts : Nat → Nat, ∀ j, j < ys.length → ys[j]? = some (.ref (Ts j)) := ⟨fun j => match ys[j]? with | some (.ref T) => T | _ => 0, fun j hj => by
      obtain ⟨T, _, _, _, e, _⟩ := ytup j hj
      simp only [e]⟩
    have hTt : ∀ j, j < ys.length → ∃ (x : Str) (t u : Tok), N ≤ Ts j ∧ IsTup h₃ (Ts j) [Value.str x t, .int j u].toArray ∧ x.length ≤ 100 := fun j hj => by
      obtain ⟨T, x, t, u, e, r⟩ := ytup j hj
      rw [hTs j hj] at e
      cases e
      exact ⟨x, t, u, r⟩
    have hDlt : @LT.lt Nat _ D h₃.objs.size := plain_lt P₃
    have hTlt : ∀ j, j < ys.length → @LT.lt Nat _ (Ts j) h₃.objs.size := fun j hj => by
      obtain ⟨x, t, u, _, ⟨o, e, _⟩, _⟩ := hTt j hj
      exact ltS e
    have hvals : ∀ j, j < ys.length → IsTup h₃ (Ts j) #[itemAt h₃ 0 (.ref (Ts j)), itemAt h₃ 1 (.ref (Ts j))] := fun j hj => by
      obtain ⟨x, t, u, _, T, _⟩ := hTt j hj
      rw [itemAt_tup T, itemAt_tup T]
      exact T
    have W₂ := WalksU.listOfTuples (prog := prog) (w := w) R'.hh h₃.objs.size D (neA (by omega)) ys.toArray Ts (fun j => #[itemAt h₃ 0 (.ref (Ts j)), itemAt h₃ 1 (.ref (Ts j))]) (fun j hj => by rw [List.getElem?_toArray]; exact hTs j (by simpa using hj)) (fun j hj => neA (by have := hTlt j (by simpa using hj); omega))
    refine wpAny_execs_cons (lcA (env := envX (Str.ofString "_law_texts_right") _ s.heap.objs.size 104 (.ref 103) []) (cl := []) (S := s.heap) (L := s.heap.objs.size) (l := [(Str.ofString "pairs", .ref D), (Str.ofString "numbers", .ref a)]) (by rfl) (by rfl) (by decide) (by rfl) (by decide)
      (nmL F₃ (wpAny_pyIter_list P₃.isList ⟨h₃.objs.size, _, _, _, _, _, fun N i zs h => zs.length = i ∧ ∀ (j : Nat) v, zs[j]? = some v → ∃ (T c : Nat) (us : List Value) (u : Tok), v = .ref T ∧ N ≤ T ∧ N ≤ c ∧ IsTup h T [Value.ref c, .int j u].toArray ∧ h.PlainList c us.toArray ∧ IntsAre us ((strOf (itemAt h₃ 0 (.ref (Ts j)))).map Int.ofNat),
        h₃, rfl, ⟨fun C => Src.pair W₂ R'.hh (by rfl) (by rfl) (by rfl) (by decide) (fun i vals e => ⟨_, _, e⟩), ?_, ?_, ?_, ?_, ?_, ?_, ?_, ?_, ?_⟩, F₃, ?_⟩)) (hy := ?_))
    · rw [List.size_toArray]; exact Nat.le_trans (by omega : ys.length ≤ 24) (by decide)
    · refine ⟨⟨_, Heap.get?_push_size _ rfl, rfl, rfl⟩, P₃.isList.push _, fun k hk => ?_⟩
      exact isTup_stays (hvals k (by simpa using hk)) (stays_push (stays_refl _) _)
    · intro b hb
      dsimp only
      rw [Heap.size_push]
      simp only [List.mem_cons, List.mem_map, List.mem_range] at hb
      rcases hb with rfl | rfl | ⟨k, hk, rfl⟩
      · omega
      · omega
      · have := hTlt k (by simpa using hk)
        omega
    · exact stays_push (stays_refl _) _
    · dsimp only; rw [Heap.size_push]; omega
    · exact wrn1 h₃
    · exact fun N h => ⟨rfl, fun j v e => by cases e⟩
    · exact fun N i zs h h' K k => ⟨K.1, fun j v e => by
        obtain ⟨T, c, us, u, rfl, hN, hc, hT, P, I⟩ := K.2 j v e
        obtain ⟨o, e, r⟩ := hT
        exact ⟨T, c, us, u, rfl, hN, hc, ⟨o, k T o hN e, r⟩, plain_keeps P fun o e => k c o hc e, I⟩⟩
    · rintro N₂ C i zs bs s₄ E₄ hi₂ ⟨a', b', e, rfl⟩ hN₂ hN₂' F₄ K₄
      have hil : i < ys.length := by simpa using hi₂
      obtain ⟨x, t, u, hNT, hT, hx⟩ := hTt i hil
      obtain ⟨rfl, rfl⟩ : a' = itemAt h₃ 0 (.ref (Ts i)) ∧ b' = itemAt h₃ 1 (.ref (Ts i)) := by
        have := congrArg Array.toList e
        simpa using this
      have e0 : itemAt h₃ 0 (.ref (Ts i)) = .str x t := by rw [itemAt_tup hT]; rfl
      have e1 : itemAt h₃ 1 (.ref (Ts i)) = .int i u := by rw [itemAt_tup hT]; rfl
      rw [e0, e1] at F₄
      refine tests_nil ?_
      rw [if_pos rfl]
      have G₄ := (G.keeps F₃.keep).keeps F₄.keep
      refine wpAny_Tuple (args_cons (lcE (cl := []) (by rfl) (by decide) (by rfl) (by decide) (nmL F₄ (wpAny_pyIter_str fun o St hW hSt => ?_))))
      refine ⟨s₄.heap.objs.size, _, _, _, _, St, fun N i qs h => IntsAre qs ((x.cps.toList.take i).map Int.ofNat), s₄.heap, rfl, ⟨fun C => Src.name (hW A' R'.hh) (by rfl) (by rfl), ?_, hSt, ?_, ?_, ?_, ?_, ?_, ?_, ?_⟩, ?_⟩
      · exact Nat.le_trans hx (by decide)
      · intro b hb
        rw [List.mem_singleton] at hb
        dsimp only
        rw [Heap.size_push]; omega
      · exact stays_push (stays_refl _) _
      · dsimp only; rw [Heap.size_push]; omega
      · exact wrn1 _
      · exact fun N h => .nil
      · exact fun N i ys h h' K k => K
      · rintro N₅ C₅ k qs bs s₅ E₅ hk ⟨v, ⟨c, u', hc, rfl⟩, rfl⟩ hN₅ hN₅' F₅ K₅
        refine tests_nil ?_
        rw [if_pos rfl]
        refine callB (G₄.keeps F₅.keep) (by rfl) boot_ord (args_cons (nmL F₅ (args_nil (P.ord_of_char ⟨_, _, rfl, stays_refl _, ?_⟩))))
        have hc' : x.cps.toList[k]? = some c := by simpa using hc
        rw [List.take_add_one, hc', List.map_append]
        exact K₅.append (.cons _ _ .nil)
      · intro D₅ h₅ tk₅ us N₅ n₅ I₅ hN₅
        have hxs : x.cps.toList.take x.cps.size = x.cps.toList := List.take_of_length_le (Nat.le_of_eq Array.length_toList)
        rw [hxs] at I₅
        refine args_cons (nmL (F₄.gro₀ n₅.toGro) (args_nil ⟨by show 2 ≤ sizeLine; decide, _, _, rfl, stays_push n₅.stays _, ?_, fun j v e => ?_⟩))
        · simp [K₄.1]
        · rcases get_snoc e with e | ⟨rfl, rfl⟩
          · obtain ⟨T, c, us, u, rfl, hN, hc, hT, P, I⟩ := K₄.2 j v e
            exact ⟨T, c, us, u, rfl, hN, hc, isTup_stays hT (stays_push n₅.stays _), plain_keeps P fun o e => stays_push n₅.stays _ _ _ e, I⟩
          · have := n₅.size
            have hge := n₅.ge
            rw [K₄.1]
            refine ⟨_, D₅, us, u, rfl, by show N₂ ≤ h₅.objs.size; omega, by omega, IsTup.new _ _, plain_keeps n₅.lst fun o e => Heap.get?_push_of_some _ e, ?_⟩
            rw [e0]
            exact I₅
    · rintro D₄ h₄ tk₄ zs N₄ keep₄ hz₄ hD₄ P₄ K₄ hN₄ F₄
      have hNL : s.heap.objs.size < N := by have := F.lo.lt; show @LT.lt Nat _ _ _; have hN' : h₂.objs.size ≤ N := hN; omega
      have tup₄ : ∀ j, j < ys.length → ∃ (x : Str) (t u : Tok), N ≤ Ts j ∧ IsTup h₄ (Ts j) [Value.str x t, .int j u].toArray ∧ x.length ≤ 100 := fun j hj => by
        obtain ⟨x, t, u, hN, ⟨o, e, r⟩, hx⟩ := hTt j hj
        exact ⟨x, t, u, hN, ⟨o, keep₄ _ o (neA (by omega)) e, r⟩, hx⟩
      have hDL : @Ne Nat D s.heap.objs.size := by have hD' : h₁.objs.size ≤ D := hD; omega
      have P₄' : h₄.PlainList D ys.toArray := plain_keeps P₃ fun o e => keep₄ _ o (neA hDL) e
      have G₄ := G.keeps F₄.keep
      simp only [List.size_toArray] at K₄
      have hy : ∀ v ∈ ys, ∃ (T : Nat) (x : Str) (t u : Tok) (j : Nat), v = .ref T ∧ IsTup h₄ T [Value.str x t, .int j u].toArray := fun v hv => by
        obtain ⟨j, hj, rfl⟩ := List.mem_iff_getElem.mp hv
        obtain ⟨x, t, u, _, hT, _⟩ := tup₄ j hj
        have := hTs j hj
        rw [List.getElem?_eq_getElem hj] at this
        exact ⟨Ts j, x, t, u, j, by simpa using this, hT⟩
      have hz : ∀ v ∈ zs, ∃ (T c : Nat) (us : List Value) (u : Tok) (j : Nat), v = .ref T ∧ IsTup h₄ T [Value.ref c, .int j u].toArray ∧ h₄.PlainList c us.toArray ∧ IntsAre us ((strOf (itemAt h₃ 0 (.ref (Ts j)))).map Int.ofNat) := fun v hv => by
        obtain ⟨j, hj, rfl⟩ := List.mem_iff_getElem.mp hv
        obtain ⟨T, c, us, u, e, _, _, r⟩ := K₄.2 j zs[j] (List.getElem?_eq_getElem hj)
        exact ⟨T, c, us, u, j, e, r⟩
      refine wpAny_execs_cons (wpAny_Return_some (wpAny_Compare1 (callG G₄ (by rfl) (by rfl) rfl (args_cons (nmL F₄ (args_nil ⟨G₄, by_texts_spec (key := itemAt h₄ 0) (snd := itemAt h₄ 1) (R'.le (by decide)) G₄ P₄'.isList (by omega) (fun v hv => ?_) (fun v hv => ?_) fun h₅ tk₅ c₅ n₅ => ?_⟩))))))
      · obtain ⟨T, x, t, u, j, rfl, hT⟩ := hy v hv
        exact ⟨item_of_tup hT 0 (by simp), x, t, by rw [itemAt_tup hT]; rfl⟩
      · obtain ⟨T, x, t, u, j, rfl, hT⟩ := hy v hv
        exact item_of_tup hT 1 (by simp)
      have G₅ := G₄.keeps n₅.stays
      have F₅ := F₄.gro₀ n₅.toGro
      refine lcE (cl := []) (by rfl) (by decide) (by rfl) (by decide) (callG G₅ (by rfl) (by rfl) rfl (args_cons (nmL F₅ (args_nil ⟨G₅, plain_spec (key := itemAt h₄ 0) (le := fun v u => leI ((itemsAt h₄ (itemAt h₄ 0 v)).map intOf) ((itemsAt h₄ (itemAt h₄ 0 u)).map intOf)) R' G₅ (isList_stays P₄.isList n₅.stays) (by omega) (fun v hv => ?_) (fun v hv u hu => ?_) fun h₆ tk₆ c₆ n₆ => ?_⟩))))
      · obtain ⟨T, c, us, u, j, rfl, hT, P, I⟩ := hz v hv
        exact ((item_of_tup hT 0 (by simp)).mono n₅.stays).keyed
      · obtain ⟨T, c, us, u₁, j, rfl, hT, P, I⟩ := hz v hv
        obtain ⟨T', c', us', u₂, j', rfl, hT', P', I'⟩ := hz u hu
        have e1 : itemAt h₄ 0 (.ref T) = .ref c := by rw [itemAt_tup hT]; rfl
        have e2 : itemAt h₄ 0 (.ref T') = .ref c' := by rw [itemAt_tup hT']; rfl
        rw [e1, e2, itemsAt_list P, itemsAt_list P', ints_map I, ints_map I']
        exact fun A₆ s₆ Q₆ E₆ R₆ hS h₆ => le_lists (by have := R₆.un; omega) (plain_keeps P fun o e => hS _ _ (n₅.stays _ _ e)) (plain_keeps P' fun o e => hS _ _ (n₅.stays _ _ e)) I I' (h₆ _)
      have pp := plainL_perm (fun v u => leI ((itemsAt h₄ (itemAt h₄ 0 v)).map intOf) ((itemsAt h₄ (itemAt h₄ 0 u)).map intOf)) zs
      generalize hpl : plainL (fun v u => leI ((itemsAt h₄ (itemAt h₄ 0 v)).map intOf) ((itemsAt h₄ (itemAt h₄ 0 u)).map intOf)) zs = pl at n₆ pp
      have hpl' := pp.length_eq
      have hc₆ : @LT.lt Nat _ c₆ h₆.objs.size := plain_lt n₆.lst
      refine wpAny_pyIter_list n₆.list ⟨h₆.objs.size, _, _, _, _, _, fun N i qs h => qs = (pl.take i).map (itemAt h₄ 1), h₆, rfl, ⟨fun C => Src.name (Walks.list R'.hh h₆.objs.size c₆ (neA (by omega)) pl.toArray) (by rfl) (by rfl), ?_, ⟨⟨_, Heap.get?_push_size _ rfl, rfl, rfl⟩, n₆.list.push _⟩, fpl2 hc₆, stays_push (stays_refl _) _, ?_, wrn1 h₆, ?_, ?_, ?_⟩, ?_⟩
      · rw [List.size_toArray]; exact Nat.le_trans (by omega : pl.length ≤ 1000) (by decide)
      · dsimp only; rw [Heap.size_push]; omega
      · exact fun N h => rfl
      · exact fun N i ys h h' K k => K
      · rintro N₇ C i qs bs s₇ E₇ hi₇ ⟨v, hv', rfl⟩ hN₇ hN₇' F₇ K₇
        refine tests_nil ?_
        rw [if_pos rfl]
        have hv'' : pl[i]? = some v := by simpa using hv'
        obtain ⟨T, c, us, u₁, j, rfl, hT, P, I⟩ := hz v (pp.mem_iff.mp (List.mem_of_getElem? hv''))
        refine Subscript_ (nmL F₇ (wpAny_Constant_int (itemN (item_of_tup hT 1 (by simp)) (stays_trans n₅.stays (stays_trans n₆.stays F₇.keep)) rfl (by decide) ⟨_, _, rfl, stays_refl _, ?_⟩)))
        rw [K₇, List.take_add_one, hv'', List.map_append]
        rfl
      · intro D₇ h₇ tk₇ qs N₇ n₇ K₇ hN₇
        have e : qs = pl.map (itemAt h₄ 1) := by simpa using K₇
        subst e
        have pm := msort_perm (fun v u => textGt (itemAt h₄ 0 v) (itemAt h₄ 0 u)) ys
        refine eq_intsK (ns := ((msort (fun v u => textGt (itemAt h₄ 0 v) (itemAt h₄ 0 u)) ys).map (itemAt h₄ 1)).map intOf) (ms := (pl.map (itemAt h₄ 1)).map intOf) (isList_stays (isList_stays n₅.list n₆.stays) n₇.stays) (ints_of _ fun v hv => ?_) n₇.list (ints_of _ fun v hv => ?_) (by have := R'.un; omega) ?_
        · obtain ⟨v, hv', rfl⟩ := List.mem_map.mp hv
          obtain ⟨T, x, t, u, j, rfl, hT⟩ := hy v (pm.mem_iff.mp hv')
          exact ⟨j, u, by rw [itemAt_tup hT]; rfl⟩
        · obtain ⟨v, hv', rfl⟩ := List.mem_map.mp hv
          obtain ⟨T, c, us, u, j, rfl, hT, _⟩ := hz v (pp.mem_iff.mp hv')
          exact ⟨j, u, by rw [itemAt_tup hT]; rfl⟩
        · rw [← hpl, texts_same h₄ ys zs ?_, decide_eq_true rfl]
          · refine h h₇ _ ⟨stays_trans F₄.keep (stays_trans n₅.stays (stays_trans n₆.stays n₇.stays)), ?_⟩
            have := F₄.lo.lt; have := n₅.size; have := n₆.size; have := n₇.size
            show @LE.le Nat _ _ _
            have : @LT.lt Nat _ s.heap.objs.size h₄.objs.size := F₄.lo.lt
            dsimp only at *
            omega
          · refine List.ext_getElem (by simp [K₄.1]) fun j h1 h2 => ?_
            have hj : j < ys.length := by simpa using h1
            have hj' : j < zs.length := by simpa using h2
            rw [List.getElem_map, List.getElem_map]
            obtain ⟨x, t, u, hN, ⟨o, eo, r⟩, hx⟩ := hTt j hj
            have T3 : IsTup h₃ (Ts j) [Value.str x t, .int j u].toArray := ⟨o, eo, r⟩
            have T4 : IsTup h₄ (Ts j) [Value.str x t, .int j u].toArray := ⟨o, keep₄ _ o (neA (by omega)) eo, r⟩
            have hyj : ys[j] = .ref (Ts j) := by
              have := hTs j hj
              rw [List.getElem?_eq_getElem hj] at this
              simpa using this
            obtain ⟨T, c, us, u₁, ez, _, _, hT, P, I⟩ := K₄.2 j zs[j] (List.getElem?_eq_getElem hj')
            rw [hyj, ez, itemAt_tup T4, itemAt_tup T4, itemAt_tup hT, itemAt_tup hT]
            rw [itemAt_tup T3] at I
            show (_, _) = ((itemsAt h₄ (.ref c)).map intOf, _)
            rw [itemsAt_list P, ints_map I]
            rfl
    · intro q hq
      simp only [List.mem_cons, List.not_mem_nil, or_false] at hq
      rcases hq with rfl | rfl <;> (dsimp only; decide)
end
end Mine

namespace Mine
/-! ## == of two lists that hold the same data -/
theorem readsAll_map {h : Heap} (D : Value → Dat) : ∀ (xs : List Value), (∀ v ∈ xs, ∃ as, Reads h v (kqdP (D v)) as) → ∃ as, ReadsAll h xs (kqdPs (xs.map D)) as
  | [], _ => ⟨_, ReadsAll.nil⟩
  | x :: xs, hx => by
    obtain ⟨as, r⟩ := hx x (List.mem_cons_self ..)
    obtain ⟨bs, q⟩ := readsAll_map D xs fun v hv => hx v (List.mem_cons_of_mem _ hv)
    rw [List.map_cons, kqdPs]
    exact ⟨_, ReadsAll.cons r q⟩
theorem reads_pair {h : Heap} {T : Addr} {i j : Int} {t u : Tok} (ht : IsTup h T [Value.int i t, .int j u].toArray) : ∃ as, Reads h (.ref T) (kqdP (.tuple [.int i, .int j])) as := by
  obtain ⟨o, e, hc, n, hd⟩ := ht
  exact ⟨_, Reads.tuple e hc hd (by simpa [kqdP, kqdPs] using ReadsAll.cons (Reads.int i t) (ReadsAll.cons (Reads.int j u) ReadsAll.nil))⟩
section
variable {prog : Program} {w : World} {A : Around} {E : Value → Shared → Prop} {s : Shared}
theorem reads_list {xs : List Value} {a : Addr} {D : Value → Dat} (hl : s.heap.IsList a xs.toArray) (hxs : ∀ v ∈ xs, ∃ as, Reads s.heap v (kqdP (D v)) as) : ∃ as, Reads s.heap (.ref a) (kqdP (.list (xs.map D))) as := by
  obtain ⟨as, r⟩ := readsAll_map D xs hxs
  obtain ⟨o, ho, hc, n, hd⟩ := hl
  rw [kqdP]
  exact ⟨_, Reads.list ho hc hd (by simpa using r)⟩
theorem list_shaped {xs : List Value} {D : Value → Dat} (ok : ∀ v ∈ xs, kqdOk 8 (D v) = true) : SeqAt.shaped (kqdP (.list (xs.map D))) = true := by
  have l := kqd_lay 9 (.list (xs.map D)) (by simpa [kqdOk] using ok)
  unfold SeqAt.shaped
  rw [l.1, Bool.true_and]
  exact decide_eq_true (Nat.le_trans l.2 (by decide))
theorem list_eqv {ds : List Dat} (ok : ∀ d ∈ ds, kqdOk 8 d = true) : PyData.eqv (kqdP (.list ds)) (kqdP (.list ds)) = true := by
  exact (kqd_eqv 9 (.list ds) (.list ds) 9 (by simpa [kqdOk] using ok) (by simpa [kqdOk] using ok)).mpr rfl
theorem eq_lists {a b : Addr} {xs ys : List Value} {D D' : Value → Dat} {Q : Value → Shared → Prop} (hl : s.heap.IsList a xs.toArray) (hl' : s.heap.IsList b ys.toArray) (hxs : ∀ v ∈ xs, ∃ as, Reads s.heap v (kqdP (D v)) as) (hys : ∀ v ∈ ys, ∃ as, Reads s.heap v (kqdP (D' v)) as)
    (ok : ∀ v ∈ xs, kqdOk 8 (D v) = true) (e : xs.map D = ys.map D') (hu : A.units + 64 < cLine) (h : Q (.bool true) s) : wpAny (model prog w) A (compareOp .Eq (.ref a) (.ref b)) Q E s := by
  obtain ⟨as, ra⟩ := reads_list hl hxs
  obtain ⟨bs, rb⟩ := reads_list hl' hys
  rw [← e] at rb
  refine eq_dataH ra rb (list_shaped ok) (list_shaped ok) hu ?_
  rw [list_eqv (by simpa using ok)]
  exact h
theorem ne_lists {a b : Addr} {xs ys : List Value} {D D' : Value → Dat} {Q : Value → Shared → Prop} (hl : s.heap.IsList a xs.toArray) (hl' : s.heap.IsList b ys.toArray) (hxs : ∀ v ∈ xs, ∃ as, Reads s.heap v (kqdP (D v)) as) (hys : ∀ v ∈ ys, ∃ as, Reads s.heap v (kqdP (D' v)) as)
    (ok : ∀ v ∈ xs, kqdOk 8 (D v) = true) (e : xs.map D = ys.map D') (hu : A.units + 64 < cLine) (h : Q (.bool false) s) : wpAny (model prog w) A (compareOp .NotEq (.ref a) (.ref b)) Q E s := by
  obtain ⟨as, ra⟩ := reads_list hl hxs
  obtain ⟨bs, rb⟩ := reads_list hl' hys
  rw [← e] at rb
  refine ne_dataH ra rb (list_shaped ok) (list_shaped ok) hu ?_
  rw [list_eqv (by simpa using ok)]
  exact h
end
theorem any_same {f₁ f₂ sw : Value → Int × Int} {φ : Int → Int × Int} {ys₁ ys₂ ms vs : List Value} (p : ms.Perm vs) (e₁ : ys₁.map f₁ = ms.map sw) (e₂ : ys₂.map f₂ = vs.map sw) (hφ : ∀ v ∈ vs, sw v = φ (sw v).1) (hφ1 : ∀ j, (φ j).1 = j) :
    (plainL (fun v u => decide ((f₁ v).1 ≤ (f₁ u).1)) ys₁).map f₁ = (plainL (fun v u => decide ((f₂ v).1 ≤ (f₂ u).1)) ys₂).map f₂ := by
  rw [plainL_map (fun p q : Int × Int => decide (p.1 ≤ q.1)) f₁, plainL_map (fun p q : Int × Int => decide (p.1 ≤ q.1)) f₂, e₁, e₂]
  have h : ∀ l : List Value, (∀ v ∈ l, v ∈ vs) → l.map sw = (l.map fun v => (sw v).1).map φ := fun l hl => by
    rw [List.map_map]
    exact List.map_congr_left fun v hv => hφ v (hl v hv)
  rw [h ms fun v hv => p.mem_iff.mp hv, h vs fun v hv => hv, ← plainL_map (fun p q : Int × Int => decide (p.1 ≤ q.1)) φ, ← plainL_map (fun p q : Int × Int => decide (p.1 ≤ q.1)) φ]
  simp only [hφ1]
  rw [plainL_of_perm (le := fun x y : Int => decide (x ≤ y)) (pre_int fun x => x) (fun x y h1 h2 => by simp only [decide_eq_true_eq] at *; omega) (p.map fun v => (sw v).1)]
/-- a pair of ints -/
def PairI (H : Heap) (v : Value) : Prop := ∃ (T : Nat) (i j : Int) (t u : Tok), v = .ref T ∧ IsTup H T [Value.int i t, .int j u].toArray
def dat (H : Heap) (v : Value) : Int × Int := (intOf (itemAt H 0 v), intOf (itemAt H 1 v))
def leP (H : Heap) (v u : Value) : Bool := decide ((dat H v).1 ≤ (dat H u).1)
theorem PairI.mono {H H' : Heap} {v : Value} (x : PairI H v) (k : H.StaysIn H') : PairI H' v := let ⟨T, i, j, t, u, e, h⟩ := x; ⟨T, i, j, t, u, e, isTup_stays h k⟩
theorem PairI.dat {H : Heap} {v : Value} (x : PairI H v) : ∃ t u, itemAt H 0 v = .int (dat H v).1 t ∧ itemAt H 1 v = .int (dat H v).2 u := by
  obtain ⟨T, i, j, t, u, rfl, h⟩ := x
  unfold Mine.dat
  rw [itemAt_tup h, itemAt_tup h]
  exact ⟨t, u, rfl, rfl⟩
theorem PairI.dat_eq {H : Heap} {T : Nat} {i j : Int} {t u : Tok} (h : IsTup H T [Value.int i t, .int j u].toArray) : Mine.dat H (.ref T) = (i, j) := by
  unfold Mine.dat
  rw [itemAt_tup h, itemAt_tup h]
  rfl
theorem PairI.dat_mono {H H' : Heap} {v : Value} (x : PairI H v) (k : H.StaysIn H') : Mine.dat H' v = Mine.dat H v := by
  obtain ⟨T, i, j, t, u, rfl, h⟩ := x
  rw [PairI.dat_eq h, PairI.dat_eq (isTup_stays h k)]
theorem PairI.item {H : Heap} {v : Value} (x : PairI H v) (i : Nat) (hi : i < 2) : Item H i v (itemAt H i v) := by
  obtain ⟨T, _, _, t, u, rfl, h⟩ := x
  exact item_of_tup h i hi
theorem any_same_P {H H₁ H₂ : Heap} {ys₁ ys₂ ms vs : List Value} (p : ms.Perm vs) (e₁ : ys₁.map (dat H₁) = ms.map fun v => ((dat H v).2, (dat H v).1)) (e₂ : ys₂.map (dat H₂) = vs.map fun v => ((dat H v).2, (dat H v).1))
    (hj : ∀ (j : Nat) (h : j < vs.length), (dat H vs[j]).2 = j) : (plainL (leP H₁) ys₁).map (dat H₁) = (plainL (leP H₂) ys₂).map (dat H₂) := by
  refine any_same (sw := fun v => ((dat H v).2, (dat H v).1)) (φ := fun j => (j, match vs[j.toNat]? with | some v => (dat H v).1 | none => 0)) p e₁ e₂ (fun v hv' => ?_) fun j => rfl
  obtain ⟨j, hj', rfl⟩ := List.mem_iff_getElem.mp hv'
  dsimp only
  rw [hj j hj', Int.toNat_natCast, List.getElem?_eq_getElem hj']
def pairD (H : Heap) (v : Value) : Dat := .tuple [.int (dat H v).1, .int (dat H v).2]
theorem pairD_ok (H : Heap) (v : Value) : kqdOk 8 (pairD H v) = true := by simp [pairD, kqdOk]
theorem pairD_reads {H h : Heap} {v : Value} (k : H.StaysIn h) (hv : PairI H v) : ∃ as, Reads h v (kqdP (pairD H v)) as := by
  obtain ⟨T, i, j, t, u, rfl, hT⟩ := hv
  unfold pairD
  rw [PairI.dat_eq hT]
  exact reads_pair (isTup_stays hT k)
theorem pairD_map {H H' : Heap} {xs ys : List Value} (e : xs.map (dat H) = ys.map (dat H')) : xs.map (pairD H) = ys.map (pairD H') := by
  have := congrArg (List.map fun p : Int × Int => Dat.tuple [.int p.1, .int p.2]) e
  rw [List.map_map, List.map_map] at this
  exact this
structure SwapK (H : Heap) (src : List Value) (N i : Nat) (ys : List Value) (h : Heap) : Prop where
  len : ys.length = i
  each : ∀ (j : Nat) y, ys[j]? = some y → ∃ (T : Nat) (v : Value), src[j]? = some v ∧ y = .ref T ∧ N ≤ T ∧ IsTup h T [itemAt H 1 v, itemAt H 0 v].toArray
theorem SwapK.facts {H h : Heap} {src ys : List Value} {N : Nat} (K : SwapK H src N src.length ys h) (hs : ∀ v ∈ src, PairI H v) : (∀ y ∈ ys, PairI h y) ∧ ys.map (dat h) = src.map fun v => ((dat H v).2, (dat H v).1) := by
  have each : ∀ (j : Nat) (h1 : j < ys.length) (h2 : j < src.length), PairI h ys[j] ∧ dat h ys[j] = ((dat H src[j]).2, (dat H src[j]).1) := fun j h1 h2 => by
    obtain ⟨T, v, ev, ey, _, hT⟩ := K.each j ys[j] (List.getElem?_eq_getElem h1)
    rw [List.getElem?_eq_getElem h2] at ev
    cases ev
    obtain ⟨t, u, e0, e1⟩ := (hs _ (List.getElem_mem h2)).dat
    rw [e0, e1] at hT
    rw [ey]
    exact ⟨⟨T, _, _, _, _, rfl, hT⟩, PairI.dat_eq hT⟩
  refine ⟨fun y hy => ?_, List.ext_getElem (by simp [K.len]) fun j h1 h2 => ?_⟩
  · obtain ⟨j, hj, rfl⟩ := List.mem_iff_getElem.mp hy
    exact (each j hj (by rw [← K.len]; exact hj)).1
  · rw [List.getElem_map, List.getElem_map]
    exact (each j (by simpa using h1) (by simpa using h2)).2
section
variable {prog : Program} {w : World} {p : Program} {loose : List Str} {mean : ExcName → Option Value} {mg mb : Str → Option Value}
/-- the plain sort of pairs of ints -/
theorem plain_pairs {A : Around} {s : Shared} {H : Heap} {a : Addr} {vs : List Value} {Q E : Value → Shared → Prop} (R : Room A 9) (G : GD p loose mean mg mb w s.heap) (hl : s.heap.IsList a vs.toArray) (hsz : vs.length ≤ 1000) (hH : H.StaysIn s.heap) (hv : ∀ v ∈ vs, PairI H v)
    (h : ∀ h' tk c, NewL none s.heap h' c (plainL (leP H) vs) → Q (.ref c) { s with heap := h', toks := tk }) : wpAny (model prog w) A (call (.ref 82) [.ref a]) Q E s := by
  refine plain_spec (key := itemAt H 0) (le := leP H) R G hl hsz (fun v hv' => (((hv v hv').item 0 (by decide)).mono hH).keyed) (fun v hv' u hu => ?_) h
  obtain ⟨t, _, e, _⟩ := (hv v hv').dat
  obtain ⟨t', _, e', _⟩ := (hv u hu).dat
  rw [e, e']
  exact fun A s Q E _ _ hq => le_int (hq _)
end
end Mine

namespace Mine
local macro_rules | `(tactic| tb_start) => `(tactic| repeat' (first | exact List.forall_mem_nil _ | refine List.forall_mem_cons.mpr ⟨?_, ?_⟩ | exact Or.inl rfl | exact Or.inr ⟨by (dsimp only; decide), by k_mem⟩))
section
variable {M : Model} {A : Around} {E : Value → Shared → Prop} {s : Shared} {S : Heap} {L a c P : Addr} {l : List (Str × Value)} {p : Program} {loose : List Str} {mean : ExcName → Option Value} {mg mb : Str → Option Value} {w : World}
  {cn : Str} {cs : Scope} {cl : List (Str × Addr)} {name qual : Str} {params : Arguments} {scope : Scope} {ps : Array Value} {pos : Pos} {firstLine : Nat} {clos : List (Str × Addr)} {Q : Value → Shared → Prop}
theorem tab_facts (F : FL S L s.heap l) (G : GD p loose mean mg mb w S) (hP : s.heap.get? P = some (tabObj ps)) : P ≠ L ∧ mainGlobals ≠ P ∧ s.heap.Ns mainGlobals mg ∧ s.heap.BuiltinsAt mg P := by
  have hgs := G.T.g.keeps F.keep
  obtain ⟨bm, ob, b1, b2, b3, b4, b5, b6⟩ := G.T.bmain
  have hgP : mainGlobals ≠ P := fun q => by
    obtain ⟨o, es, ep, e, hd, _⟩ := hgs
    rw [q, hP] at e; cases e; cases hd
  have hbP : bm ≠ P := fun q => by
    have e := F.keep _ _ b3
    rw [q, hP] at e; cases e; cases b4
  have hbG : bm ≠ mainGlobals := fun q => by
    obtain ⟨o, es, ep, e, hd, _⟩ := G.T.g
    rw [q, e] at b3; cases b3; rw [hd] at b6; cases b6
  refine ⟨fun q => ?_, hgP, hgs, bm, ob, b1, b2, hbG, hbP, F.keep _ _ b3, b4, b5, b6⟩
  obtain ⟨_, ⟨o, es, ep, e, hd, _⟩, _⟩ := F.lo
  rw [← q, hP] at e; cases e; cases hd
/-- a lambda is made: the code's table P grows -/
theorem lamL {body : Expr} (F : FL S L s.heap l) (G : GD p loose mean mg mb w S) (C : CodeHd S c P) (hP : s.heap.get? P = some (tabObj ps)) (hSP : S.get? P = none) (ht : TriplesOk ps.toList) (hnf : codeAmong pos ps.toList = none) (hcl : closureFor scope (envX cn cs L a (.ref c) cl) = pure clos)
    (h : ∀ f c' ctv h' tk, FL S L h' l → Gro (some P) s.heap h' → s.heap.objs.size ≤ f → h'.get? f = some (kla_obj name qual params body scope clos ((mg "__name__").getD .none) c' ctv) → h'.CodeRec (.ref c') qual →
      h'.get? P = some (tabObj (ps ++ #[rawInt pos.line, rawInt pos.col, .ref c'])) → Q (.ref f) { s with heap := h', toks := tk }) :
    wpAny M A (makeFunction name qual params (.expr body) scope (envX cn cs L a (.ref c) cl) [] [] [] pos firstLine) Q E s := by
  obtain ⟨hPL, hgP, hgs, hb⟩ := tab_facts F G hP
  refine kla_makeFunction (mg := mg) hcl rfl hgs rfl (C.keeps F.keep) hP ht hnf hgP hb fun c' ctv h' tk hx hge hlt hrec htb => ?_
  have g : Gro (some P) s.heap (h'.push (kla_obj name qual params body scope clos ((mg "__name__").getD .none) c' ctv)) := ⟨fun b o e => Heap.get?_push_of_some _ (hx b o (fun z => by rw [z, hideO_self _ rfl] at e; cases e) (hideO_stays _ _ _ _ e)), by rw [Heap.size_push]; omega⟩
  refine h h'.objs.size c' ctv _ tk (F.past g.stays (fun z => hPL (Option.some.inj z)) (fun a ha => by cases ha; exact hSP)) g (by omega) (Heap.get?_push_size _ rfl) ?_ (Heap.get?_push_of_some _ htb)
  obtain ⟨c₂, oc, vs, t, e2, hoc, hd, hv⟩ := hrec
  exact ⟨c₂, oc, vs, t, e2, Heap.get?_push_of_some _ hoc, hd, hv⟩
/-- a nested def is made -/
theorem defL {body : List Stmt} (F : FL S L s.heap l) (G : GD p loose mean mg mb w S) (C : CodeHd S c P) (hP : s.heap.get? P = some (tabObj ps)) (hSP : S.get? P = none) (ht : TriplesOk ps.toList) (hnf : codeAmong pos ps.toList = none) (hcl : closureFor scope (envX cn cs L a (.ref c) cl) = pure clos)
    (h : ∀ f c' ctv doc h' tk, FL S L h' l → Gro (some P) s.heap h' → s.heap.objs.size ≤ f → h'.get? f = some (fnMade name qual params body scope clos doc ((mg "__name__").getD .none) c' ctv) → h'.CodeRec (.ref c') qual →
      h'.get? P = some (tabObj (ps ++ #[rawInt pos.line, rawInt pos.col, .ref c'])) → Q (.ref f) { s with heap := h', toks := tk }) :
    wpAny M A (makeFunction name qual params (.stmts body) scope (envX cn cs L a (.ref c) cl) [] [] [] pos firstLine) Q E s := by
  obtain ⟨hPL, hgP, hgs, hb⟩ := tab_facts F G hP
  refine makeFunction_K (mg := mg) hcl rfl hgs rfl (C.keeps F.keep) hP ht hnf hgP hb fun c' ctv doc h' tk hx hge hlt hrec htb => ?_
  have g : Gro (some P) s.heap (h'.push (fnMade name qual params body scope clos doc ((mg "__name__").getD .none) c' ctv)) := ⟨fun b o e => Heap.get?_push_of_some _ (hx b o (fun z => by rw [z, hideO_self _ rfl] at e; cases e) (hideO_stays _ _ _ _ e)), by rw [Heap.size_push]; omega⟩
  refine h h'.objs.size c' ctv doc _ tk (F.past g.stays (fun z => hPL (Option.some.inj z)) (fun a ha => by cases ha; exact hSP)) g (by omega) (Heap.get?_push_size _ rfl) ?_ (Heap.get?_push_of_some _ htb)
  obtain ⟨c₂, oc, vs, t, e2, hoc, hd, hv⟩ := hrec
  exact ⟨c₂, oc, vs, t, e2, Heap.get?_push_of_some _ hoc, hd, hv⟩
theorem codeRec_keep {h h' : Heap} {cd : Value} {q : Str} (x : h.CodeRec cd q) (k : ∀ c oc vs, h.get? c = some oc → oc.data = .fields vs → h'.get? c = some oc) : h'.CodeRec cd q :=
  let ⟨c₂, oc, vs, t, e2, hoc, hd, hv⟩ := x; ⟨c₂, oc, vs, t, e2, k c₂ oc vs hoc hd, hd, hv⟩
theorem noCells {ns : List (Str × NameKind)} (h : ns.all (fun x => x.2 != .cell) = true) : ∀ x ∈ ns, x.2 ≠ .cell := fun x hx => by
  have := List.all_eq_true.mp h x hx
  simpa using this
theorem nmF {env : Env} {x : Str} {pos : Pos} {c : Addr} {v : Value} (hc : env.cells.lookup x = some c) (hv : s.heap.IsCell c (some v)) (h : Q v s)
    (hk : env.scope.kind = .function := by rfl) (hx : env.kindOf x = some .free := by rfl) (hn : (x == ("__classdict__" : Str)) = false := by decide) (hd : (x == ("__debug__" : Str)) = false := by decide) :
    wpAny M A (eval (.Name x pos) env) Q E s := wpAny_Name (wpAny_loadName_free hk hx hc hv h hn) hd
end
section
variable {prog : Program} {w : World} {p : Program} {loose : List Str} {mean : ExcName → Option Value} {mg mb : Str → Option Value}
/-- x.append(e) as a statement, x read in any way -/
theorem appendN {A : Around} {E : Value → Shared → Prop} {s : Shared} {env : Env} {x : Str} {c : Addr} {its : Array Value} {pos pos' pos'' p4 : Pos} {e : Expr} {pl : Sem Bool} {Q : Flow → Shared → Prop}
    (hc : s.heap.PlainList c its) (hname : ∀ Q : Value → Shared → Prop, Q (.ref c) s → wpAny (model prog w) A (eval (.Name x p4) env) Q E s)
    (h : wpAny (model prog w) A (eval e env) (fun v s₁ => ∃ its', s₁.heap.PlainList c its' ∧ its'.size ≤ sizeLine ∧ ∀ h', h'.PlainList c (its'.push v) → Heap.SameBut c s₁.heap h' → Q .next { s₁ with heap := h' }) E s)
    (hi : interactive env = false := by rfl) (hs : swapsWith (.Call (.Attribute (.Name x p4) "append" pos'') [e] [] pos') none pos.line env = pure false := by rfl)
    (he : eval (.Call (.Attribute (.Name x p4) "append" pos'') [e] [] pos') env = (do
      let ov ← eval (.Name x p4) env
      standAt pos''.atName
      let (f, first) ← holding [ov] (getMethod ov "append" pl)
      callWith pos' f first (backTo pos' (starEach [e] env)) []) := by rfl)
    (he' : starEach [e] env = (false, eval e env) :: starEach [] env := by rfl) :
    wpAny (model prog w) A (exec (.Expr (.Call (.Attribute (.Name x p4) "append" pos'') [e] [] pos') pos) env) Q E s := by
  obtain ⟨n, ho⟩ := hc
  refine wpAny_Expr (MethodCall_ (hname _ (getMethod_list_append ho rfl rfl (callWith_method1 (args_cons (wpAny_mono h (fun v s₁ h₁ => args_nil ?_) fun _ _ x => x) he') he'))) he) hi hs
  obtain ⟨its', hp, hsz, hq⟩ := h₁
  exact wpAny_list_append_plain hp (fun h' h1 h2 => hq h' h1 h2) hsz
set_option maxHeartbeats 4000000 in
theorem any_right_spec {A : Around} {s : Shared} {a : Addr} {vs : List Value} {sd : Int} {t : Tok} {Q E : Value → Shared → Prop} (R : Room A 10) (G : GD p loose mean mg mb w (hideO s.heap (some 91))) (C : CodeHd (hideO s.heap (some 91)) 93 91)
    (hP : s.heap.get? 91 = some (tabObj #[])) (hl : (hideO s.heap (some 91)).IsList a vs.toArray) (hsz : vs.length ≤ 24)
    (hv : ∀ (j : Nat) v, vs[j]? = some v → ∃ (T : Nat) (k : Int) (t u : Tok), v = .ref T ∧ IsTup (hideO s.heap (some 91)) T [Value.int k t, .int j u].toArray)
    (h : ∀ h' tk, Gro (some 91) s.heap h' → GrownAt 91 h' → Q (.bool true) { s with heap := h', toks := tk }) :
    wpAny (model prog w) A (call (.ref 94) [.ref a, .int sd t]) Q E s := by
  have G' := G.keeps (hideO_stays s.heap (some 91))
  refine callDefC (binds := [(Str.ofString "pairs", .ref a), (Str.ofString "seed", .int sd t)]) (lb := [(Str.ofString "pairs", .ref a)]) R (G'.X 94 _ (by rfl)) rfl G'.T.nolimit (codeRec_of G'.X (by rfl)) rfl (by rfl) rfl (kindsX (by rfl)) (fun q h => by rw [List.mem_singleton.mp h]; rfl) (fun h₁ tk₁ A' E' R' F0 HC => ?_) rfl rfl rfl
  show wpAny _ _ (execs _ (envX (Str.ofString "_law_any_right") _ s.heap.objs.size 94 (.ref 93) [(Str.ofString "asked", s.heap.objs.size + 2), (Str.ofString "seed", s.heap.objs.size + 1)])) _ _ _
  have hseed : h₁.IsCell (s.heap.objs.size + 1) (some (.int sd t)) := HC (Str.ofString "seed") _ (by rfl)
  have hasked : h₁.IsCell (s.heap.objs.size + 2) none := HC (Str.ofString "asked") _ (by rfl)
  clear HC
  have F : FL (hideO s.heap (some 91)) s.heap.objs.size h₁ _ := off_new F0
  have hP₁ : h₁.get? 91 = some (tabObj #[]) := F0.keep _ _ hP
  clear F0
  have hSP : (hideO s.heap (some 91)).get? 91 = none := hideO_self _ rfl
  have hcA : @LT.lt Nat _ (s.heap.objs.size + 2) h₁.objs.size := by obtain ⟨o, e, _⟩ := hasked; exact ltS e
  have hSn : ∀ b : Nat, s.heap.objs.size ≤ b → (hideO s.heap (some 91)).get? b = none := fun b hb => by
    cases e : (hideO s.heap (some 91)).get? b with
    | none => rfl
    | some o => have := ltS (hideO_stays _ _ _ _ e); omega
  have h91 : @LT.lt Nat _ 91 s.heap.objs.size := ltS hP
  refine wpAny_execs_cons (wpAny_Assign_Name (wpAny_List (args_nil ⟨by decide, ?_⟩)))
  refine wpAny_storeName_cell (c := s.heap.objs.size + 2) (v₀ := none) rfl rfl rfl (hasked.keeps (stays_push (stays_refl _) _)) fun h₂ hasked₂ sb₂ => ?_
  have F₂ : FL (hideO s.heap (some 91)) s.heap.objs.size h₂ _ := (F.push _).but sb₂ (neA (by omega)) (hSn _ (by omega))
  have P₂ : h₂.PlainList h₁.objs.size ([] : List Value).toArray := PlainList.but (PlainList.new h₁ []) sb₂ (neA (by omega))
  have hP₂ : h₂.get? 91 = some (tabObj #[]) := (sb₂.2 _ (neA (by omega))).trans (Heap.get?_push_of_some _ hP₁)
  have hseed₂ : h₂.IsCell (s.heap.objs.size + 1) (some (.int sd t)) := Heap.IsCell.sameBut (hseed.keeps (stays_push (stays_refl _) _)) sb₂ (neA (by omega))
  have z₂ : h₂.objs.size = h₁.objs.size + 1 := by rw [sb₂.1]; dsimp only; rw [Heap.size_push]
  refine wpAny_execs_cons (nestDef_K rfl rfl rfl (defL (clos := [(Str.ofString "seed", s.heap.objs.size + 1), (Str.ofString "asked", s.heap.objs.size + 2)]) F₂ G C hP₂ hSP (by trivial) rfl (by rfl) fun f c' ctv doc h₃ tk₃ F₃ g₃ hf hfo hrec hP₃ => ?_))
  refine stL (l' := [(Str.ofString "_law_behind", .ref f), (Str.ofString "pairs", .ref a)]) F₃ (fun h₄ F₄ s₄ => ?_)
  have hLf : @LT.lt Nat _ s.heap.objs.size f := by have : h₂.objs.size ≤ f := hf; omega
  have hAA : (some 91 : Option Addr) ≠ some h₁.objs.size := fun z => by have := Option.some.inj z; have : @Eq Nat 91 h₁.objs.size := this; omega
  have hP₄ := (s₄.2 91 (neA (by omega))).trans hP₃
  have P₄ : h₄.PlainList h₁.objs.size ([] : List Value).toArray := PlainList.but (PlainList.gro P₂ g₃ hAA) s₄ (neA (by omega))
  have cell₄ : ∀ (c : Nat) v, s.heap.objs.size < c → h₂.IsCell c v → h₄.IsCell c v := fun c v hc ⟨o, e, r⟩ =>
    ⟨o, (s₄.2 _ (neA (by omega))).trans (g₃.stays _ _ (hideO_get e fun z => by have := Option.some.inj z; have : @Eq Nat 91 c := this; omega)), r⟩
  have hseed₄ := cell₄ _ _ (by omega) hseed₂
  have hasked₄ := cell₄ _ _ (by omega) hasked₂
  have hfo₄ := (s₄.2 f (neA (by omega))).trans hfo
  have z₄ : h₄.objs.size = h₃.objs.size := s₄.1
  have z₃ : h₂.objs.size ≤ h₃.objs.size := g₃.size
  have hrec₄ := codeRec_keep hrec fun cc oc vs hoc hd => (s₄.2 cc fun z => by
    subst z
    obtain ⟨_, ⟨o, es, ep, e, hd', _⟩, _⟩ := F₃.lo
    rw [e] at hoc; cases hoc; rw [hd] at hd'; cases hd').trans hoc
  have hH0 : ∀ a, some h₁.objs.size = some a → (hideO s.heap (some 91)).get? a = none := fun a ha => by cases ha; exact hSn _ (by omega)
  have hSH : (hideO s.heap (some 91)).StaysIn (hideO h₄ (some h₁.objs.size)) := stays_hideO F₄.keep hH0
  have hfH : (hideO h₄ (some h₁.objs.size)).get? f = _ := hideO_get hfo₄ fun z => by have := Option.some.inj z; have : @Eq Nat h₁.objs.size f := this; have : h₂.objs.size ≤ f := hf; omega
  have hrecH := codeRec_keep hrec₄ (h' := hideO h₄ (some h₁.objs.size)) fun cc oc vs hoc hd => hideO_get hoc fun z => by
    have e := Option.some.inj z
    subst e
    obtain ⟨n, e⟩ := P₄
    rw [e] at hoc; cases hoc; cases hd
  have cellH : ∀ (c : Nat) v, h₄.IsCell c v → (hideO h₄ (some h₁.objs.size)).IsCell c v := fun c v ⟨o, e, r⟩ => ⟨o, hideO_get e (fun z => by
    have e' := Option.some.inj z
    obtain ⟨n, e2⟩ := P₄
    rw [e', e] at e2; cases e2; cases r), r⟩
  have hseedH := cellH _ _ hseed₄
  have haskedH := cellH _ _ hasked₄
  have B : Beh prog w (hideO h₄ (some h₁.objs.size)) (some h₁.objs.size) (fun n h => ∃ xs : List Value, xs.length = n ∧ h.PlainList h₁.objs.size xs.toArray) f
      (fun v u => (intOf (itemAt (hideO s.heap (some 91)) 0 v) * 7 + intOf (itemAt (hideO s.heap (some 91)) 0 u) * 3 + intOf (itemAt (hideO s.heap (some 91)) 1 v) * intOf (itemAt (hideO s.heap (some 91)) 1 u) + sd).fmod 3 == 0)
      (fun v => ∃ (T : Nat) (k i : Int) (t u : Tok), v = .ref T ∧ IsTup (hideO s.heap (some 91)) T [Value.int k t, .int i u].toArray ∧ 0 ≤ i ∧ i < 100) 1 :=
    { fn := ⟨_, _, hfH, rfl⟩
      stable := fun n h h' ⟨xs, e, P⟩ k => ⟨xs, e, plain_keeps P fun o q => k _ o rfl q⟩
      tells := fun A₅ s₅ x y n Q₅ E₅ R₅ hS₅ hx hy hJ hn hq => by
        obtain ⟨T₁, k₁, i₁, t₁, u₁, rfl, T1, i1, i1'⟩ := hx
        obtain ⟨T₂, k₂, i₂, t₂, u₂, rfl, T2, i2, i2'⟩ := hy
        obtain ⟨xs, exs, Px⟩ := hJ
        have G₅ := (G.keeps hSH).keeps hS₅
        refine callDef (binds := [(Str.ofString "one", .ref T₁), (Str.ofString "other", .ref T₂)]) R₅ (hS₅ _ _ hfH) rfl G₅.T.nolimit (codeRec_keep hrecH fun c oc vs e _ => hS₅ _ _ e) rfl (by rfl) (noCells (by rfl)) (locs rfl) (of_decide_eq_true rfl) (fun h₆ A₆ E₆ R₆ F₆ => ?_) rfl rfl rfl
        show wpAny _ _ (execs _ (envX _ _ s₅.heap.objs.size f (.ref c') [(Str.ofString "seed", s.heap.objs.size + 1), (Str.ofString "asked", s.heap.objs.size + 2)])) _ _ _
        have hA₅ : @LT.lt Nat _ h₁.objs.size s₅.heap.objs.size := plain_lt Px
        have Px₆ : h₆.PlainList h₁.objs.size xs.toArray := plain_keeps Px fun o e => F₆.keep _ _ e
        have hsz₆ : @LT.lt Nat _ s₅.heap.objs.size h₆.objs.size := F₆.lo.lt
        have haskd₆ := (haskedH.keeps hS₅).keeps F₆.keep
        have hseed₆ := (hseedH.keeps hS₅).keeps F₆.keep
        have F₆' : FL (hideO s₅.heap (some h₁.objs.size)) s₅.heap.objs.size h₆ _ := off_new F₆
        refine wpAny_execs_cons (appendN Px₆ (fun Q hQ => nmF (c := s.heap.objs.size + 2) (by rfl) haskd₆ hQ) (wpAny_Constant_int ⟨_, Px₆, (by rw [List.size_toArray, exs]; exact Nat.le_trans hn (by decide)), fun h₇ P₇ s₇ => ?_⟩))
        have F₇ := F₆'.but s₇ (neA (by omega)) (hideO_self _ rfl)
        have hseed₇ : h₇.IsCell (s.heap.objs.size + 1) (some (.int sd t)) := hseed₆.sameBut s₇ (neA (by omega))
        have hT₇ : (hideO s.heap (some 91)).StaysIn h₇ := stays_trans (stays_hideO (stays_trans hSH hS₅) hH0) F₇.keep
        have g₇ : Gro (some h₁.objs.size) s₅.heap h₇ := ⟨F₇.keep, by have := s₇.1; dsimp only at this; omega⟩
        have y10 : intOf (itemAt (hideO s.heap (some 91)) 0 (.ref T₁)) = k₁ := by rw [itemAt_tup T1]; rfl
        have y11 : intOf (itemAt (hideO s.heap (some 91)) 1 (.ref T₁)) = i₁ := by rw [itemAt_tup T1]; rfl
        have y20 : intOf (itemAt (hideO s.heap (some 91)) 0 (.ref T₂)) = k₂ := by rw [itemAt_tup T2]; rfl
        have y21 : intOf (itemAt (hideO s.heap (some 91)) 1 (.ref T₂)) = i₂ := by rw [itemAt_tup T2]; rfl
        rw [y10, y11, y20, y21] at hq
        have x10 : Item (hideO s.heap (some 91)) 0 (.ref T₁) (.int k₁ t₁) := ⟨T₁, _, rfl, T1, rfl⟩
        have x11 : Item (hideO s.heap (some 91)) 1 (.ref T₁) (.int i₁ u₁) := ⟨T₁, _, rfl, T1, rfl⟩
        have x20 : Item (hideO s.heap (some 91)) 0 (.ref T₂) (.int k₂ t₂) := ⟨T₂, _, rfl, T2, rfl⟩
        have x21 : Item (hideO s.heap (some 91)) 1 (.ref T₂) (.int i₂ u₂) := ⟨T₂, _, rfl, T2, rfl⟩
        refine wpAny_execs_cons (wpAny_Return_some (wpAny_Compare1 (wpAny_BinOp (wpAny_BinOp (wpAny_BinOp (wpAny_BinOp (wpAny_BinOp (Subscript_ (nmL F₇ (wpAny_Constant_int (itemN x10 hT₇ rfl (by decide) (wpAny_Constant_int (mul_int (wpAny_BinOp (Subscript_ (nmL F₇ (wpAny_Constant_int (itemN x20 hT₇ rfl (by decide) (wpAny_Constant_int (mul_int (add_int (wpAny_BinOp (Subscript_ (nmL F₇ (wpAny_Constant_int (itemN x11 hT₇ rfl (by decide) (Subscript_ (nmL F₇ (wpAny_Constant_int (itemN x21 hT₇ rfl (by decide) (mul_int (add_int (nmF (c := s.heap.objs.size + 1) (by rfl) hseed₇ (add_int (wpAny_Constant_int (mod_int' (by decide) (wpAny_Constant_int (eq_int ?_))))))) (IntMulOk.of_right (intBits_le_64 (by omega) (by omega)))))))))))))) (IntMulOk.of_right (by decide))))))))) (IntMulOk.of_right (by decide)))))))))))))))
        rw [List.push_toArray] at P₇
        exact hq h₇ _ g₇ ⟨_, by rw [List.length_append, exs]; rfl, P₇⟩ }
  generalize hb : (fun v u : Value => (intOf (itemAt (hideO s.heap (some 91)) 0 v) * 7 + intOf (itemAt (hideO s.heap (some 91)) 0 u) * 3 + intOf (itemAt (hideO s.heap (some 91)) 1 v) * intOf (itemAt (hideO s.heap (some 91)) 1 u) + sd).fmod 3 == 0) = b at B
  clear hb
  have hA4 : @LT.lt Nat _ h₁.objs.size h₄.objs.size := plain_lt P₄
  have hqL : (some h₁.objs.size : Option Addr) ≠ some s.heap.objs.size := fun z => by have := Option.some.inj z; have : @Eq Nat h₁.objs.size s.heap.objs.size := this; omega
  refine wpAny_execs_cons (wpAny_Assign_Name (callG (G.keeps F₄.keep) (by rfl) (by rfl) rfl (args_cons (nmL F₄ (args_cons (nmL F₄ (args_nil ⟨G.keeps F₄.keep, sort_spec (n := 0) (R'.le (by decide)) (G.keeps hSH) (fun z hz => by cases hz; exact hA4) B (isList_stays hl hSH) (fun v hv' => ?_) (by omega) (by decide) ⟨[], rfl, P₄⟩ fun h₅ tk₅ c₅ k n₅ hk J₅ => ?_⟩)))))))
  · obtain ⟨j, hj, rfl⟩ := List.mem_iff_getElem.mp hv'
    obtain ⟨T, k, t, u, e, hT⟩ := hv j vs[j] (List.getElem?_eq_getElem hj)
    exact ⟨T, k, j, t, u, e, hT, by omega, by omega⟩
  obtain ⟨xs, exs, Px₅⟩ := J₅
  have hms := msort_perm b vs
  generalize msort b vs = ms at n₅ hms
  clear B
  have hml := hms.length_eq
  have F₅ := F₄.gro n₅.toGro hqL hH0
  have hcL : @Ne Nat c₅ s.heap.objs.size := by have : h₄.objs.size ≤ c₅ := n₅.ge; omega
  refine stL (l' := [(Str.ofString "found", .ref c₅), (Str.ofString "pairs", .ref a)]) F₅ (fun h₆ F₆ s₆ => ?_)
  have Px₆ := PlainList.but Px₅ s₆ (neA (by omega))
  have Pc₆ := PlainList.but n₅.lst s₆ (neA hcL)
  have hasked₆ : h₆.IsCell (s.heap.objs.size + 2) (some (.ref h₁.objs.size)) := (haskedH.keeps n₅.stays).sameBut s₆ (neA (by omega))
  have hP₆ := (s₆.2 91 (neA (by omega))).trans (n₅.stays _ _ (hideO_get hP₄ hAA.symm))
  have G₆ := G.keeps F₆.keep
  have hl₆ := isList_stays hl F₆.keep
  have g₆ : Gro (some 91) s.heap h₆ := ⟨F₆.keep, by have := s₆.1; have := n₅.size; have hh : h₂.objs.size ≤ h₃.objs.size := z₃; dsimp only at *; omega⟩
  have hxk : xs.length = k := by omega
  refine wpAny_execs_cons (wpAny_If (wpAny_isTrue_Compare1 (callB G₆ (by rfl) boot_len (args_cons (nmC (c := s.heap.objs.size + 2) (by rfl) hasked₆ (args_nil (lenL Px₆.isList ?_ fun t1 tk1 => wpAny_BinOp (callB G₆ (by rfl) boot_len (args_cons (nmL F₆ (args_nil (lenL hl₆ (by omega) fun t2 tk2 => callG G₆ (by rfl) (by rfl) rfl (args_cons (callB G₆ (by rfl) boot_len (args_cons (nmL F₆ (args_nil (lenL hl₆ (by omega) fun t3 tk3 => args_nil ⟨G₆, levels_spec (R'.le (by decide)) G₆ (by omega) fun h₇ tk₇ lv u hlv hlvn g₇ => mul_int (gt_int (wpAny_truthy_bool ?_)) (IntMulOk.of_right (intBits_le_64 (by omega) (by omega)))⟩))))))))))))))))))
  · have := hk 5 (by omega)
    omega
  have hkl : (xs.length : Int) ≤ (vs.length : Int) * (lv : Int) := by rw [hxk]; exact_mod_cast hk lv hlv
  rw [if_neg (by rw [decide_eq_true_eq]; exact Int.not_lt.mpr hkl)]
  refine wpAny_execs_nil ?_
  have F₇ := F₆.gro₀ g₇
  have G₇ := G.keeps F₇.keep
  have Pc₇ := (PlainList.gro Pc₆ g₇ nofun).isList
  have hl₇ := isList_stays hl F₇.keep
  have hpv : ∀ v ∈ vs, PairI (hideO s.heap (some 91)) v := fun v hv' => by
    obtain ⟨j, hj, rfl⟩ := List.mem_iff_getElem.mp hv'
    obtain ⟨T, k, t, u, e, hT⟩ := hv j vs[j] (List.getElem?_eq_getElem hj)
    exact ⟨T, k, j, t, u, e, hT⟩
  have hpm : ∀ v ∈ ms, PairI (hideO s.heap (some 91)) v := fun v hv' => hpv v (hms.mem_iff.mp hv')
  have hc7 : @LT.lt Nat _ c₅ h₇.objs.size := isList_lt Pc₇
  refine wpAny_execs_cons (wpAny_Return_some (wpAny_Compare1 (callG G₇ (by rfl) (by rfl) rfl (args_cons (lcE (cl := []) (by rfl) (by decide) (by rfl) (by decide) (nmL F₇ (wpAny_pyIter_list Pc₇ ⟨h₇.objs.size, _, _, _, _, _, SwapK (hideO s.heap (some 91)) ms, h₇, rfl, ⟨fun C => Src.name (Walks.list R'.hh h₇.objs.size c₅ (neA (by omega)) ms.toArray) (by rfl) (by rfl), ?_, ⟨⟨_, Heap.get?_push_size _ rfl, rfl, rfl⟩, Pc₇.push _⟩, fpl2 hc7, stays_push (stays_refl _) _, ?_, wrn1 h₇, ?_, ?_, ?_⟩, ?_⟩)))))))
  · rw [List.size_toArray]; exact Nat.le_trans (by omega : ms.length ≤ 1000) (by decide)
  · dsimp only; rw [Heap.size_push]; omega
  · exact fun N h => ⟨rfl, fun j y e => by cases e⟩
  · exact fun N i ys h h' K k => ⟨K.len, fun j y e => by
      obtain ⟨T, v, ev, ey, hN, ⟨o, eo, r⟩⟩ := K.each j y e
      exact ⟨T, v, ev, ey, hN, o, k T o hN eo, r⟩⟩
  · rintro N C i ys bs s₈ E₈ hi ⟨v, hv', rfl⟩ hN hN' F₈ K₈
    refine tests_nil ?_
    rw [if_pos rfl]
    have hv'' : ms[i]? = some v := by simpa using hv'
    have hpv := hpm v (List.mem_of_getElem? hv'')
    have hst := stays_trans F₇.keep F₈.keep
    refine wpAny_Tuple (args_cons (Subscript_ (nmL F₈ (wpAny_Constant_int (itemN (hpv.item 1 (by decide)) hst rfl (by decide) (args_cons (Subscript_ (nmL F₈ (wpAny_Constant_int (itemN (hpv.item 0 (by decide)) hst rfl (by decide) (args_nil ⟨by show 2 ≤ sizeLine; decide, _, _, rfl, stays_push (stays_refl _) _, ?_, fun j y e => ?_⟩)))))))))))
    · simp [K₈.len]
    · rcases get_snoc e with e | ⟨rfl, rfl⟩
      · obtain ⟨T, v, ev, ey, hN, hT⟩ := K₈.each j y e
        exact ⟨T, v, ev, ey, hN, isTup_stays hT (stays_push (stays_refl _) _)⟩
      · rw [K₈.len]
        exact ⟨_, v, hv'', rfl, hN', IsTup.new _ _⟩
  intro D₈ h₈ tk₈ ys₁ N₈ n₈ K₈ hN₈
  clear hN₈
  rw [List.size_toArray] at K₈
  have fx₁ := SwapK.facts K₈ hpm
  have hy₁ := fx₁.1
  have ey₁ := fx₁.2
  clear fx₁
  have yl₁ := K₈.len
  clear K₈
  have G₈ := G₇.keeps n₈.stays
  refine args_nil ⟨G₈, plain_pairs (H := h₈) R' G₈ n₈.list (by omega) (stays_refl _) hy₁ fun h₉ tk₉ c₉ n₉ => ?_⟩
  have F₉ := (F₇.gro₀ n₈.toGro).gro₀ n₉.toGro
  have G₉ := G₈.keeps n₉.stays
  have hl₉ := isList_stays hl F₉.keep
  have ha9 : @LT.lt Nat _ a h₉.objs.size := isList_lt hl₉
  refine callG G₉ (by rfl) (by rfl) rfl (args_cons (lcE (cl := []) (by rfl) (by decide) (by rfl) (by decide) (nmL F₉ (wpAny_pyIter_list hl₉ ⟨h₉.objs.size, _, _, _, _, _, SwapK (hideO s.heap (some 91)) vs, h₉, rfl, ⟨fun C => Src.name (Walks.list R'.hh h₉.objs.size a (neA (by omega)) vs.toArray) (by rfl) (by rfl), ?_, ⟨⟨_, Heap.get?_push_size _ rfl, rfl, rfl⟩, hl₉.push _⟩, fpl2 ha9, stays_push (stays_refl _) _, ?_, wrn1 h₉, ?_, ?_, ?_⟩, ?_⟩))))
  · rw [List.size_toArray]; exact Nat.le_trans (by omega : vs.length ≤ 1000) (by decide)
  · dsimp only; rw [Heap.size_push]; omega
  · exact fun N h => ⟨rfl, fun j y e => by cases e⟩
  · exact fun N i ys h h' K k => ⟨K.len, fun j y e => by
      obtain ⟨T, v, ev, ey, hN, ⟨o, eo, r⟩⟩ := K.each j y e
      exact ⟨T, v, ev, ey, hN, o, k T o hN eo, r⟩⟩
  · rintro N C i ys bs s₈ E₈ hi ⟨v, hv', rfl⟩ hN hN' F₈ K₈
    refine tests_nil ?_
    rw [if_pos rfl]
    have hv'' : vs[i]? = some v := by simpa using hv'
    have hpv' := hpv v (List.mem_of_getElem? hv'')
    have hst := stays_trans F₉.keep F₈.keep
    refine wpAny_Tuple (args_cons (Subscript_ (nmL F₈ (wpAny_Constant_int (itemN (hpv'.item 1 (by decide)) hst rfl (by decide) (args_cons (Subscript_ (nmL F₈ (wpAny_Constant_int (itemN (hpv'.item 0 (by decide)) hst rfl (by decide) (args_nil ⟨by show 2 ≤ sizeLine; decide, _, _, rfl, stays_push (stays_refl _) _, ?_, fun j y e => ?_⟩)))))))))))
    · simp [K₈.len]
    · rcases get_snoc e with e | ⟨rfl, rfl⟩
      · obtain ⟨T, v, ev, ey, hN, hT⟩ := K₈.each j y e
        exact ⟨T, v, ev, ey, hN, isTup_stays hT (stays_push (stays_refl _) _)⟩
      · rw [K₈.len]
        exact ⟨_, v, hv'', rfl, hN', IsTup.new _ _⟩
  intro D₁₀ h₁₀ tk₁₀ ys₂ N₁₀ n₁₀ K₁₀ hN₁₀
  clear hN₁₀
  rw [List.size_toArray] at K₁₀
  have fx₂ := SwapK.facts K₁₀ hpv
  have hy₂ := fx₂.1
  have ey₂ := fx₂.2
  clear fx₂
  have yl₂ := K₁₀.len
  clear K₁₀
  have G₁₀ := G₉.keeps n₁₀.stays
  refine args_nil ⟨G₁₀, plain_pairs (H := h₁₀) R' G₁₀ n₁₀.list (by omega) (stays_refl _) hy₂ fun h₁₁ tk₁₁ c₁₁ n₁₁ => ?_⟩
  have pp₁ := plainL_perm (leP h₈) ys₁
  have pp₂ := plainL_perm (leP h₁₀) ys₂
  have k₁ : h₈.StaysIn h₁₁ := stays_trans n₉.stays (stays_trans n₁₀.stays n₁₁.stays)
  refine eq_lists (D := pairD h₈) (D' := pairD h₁₀) (isList_stays n₉.list (stays_trans n₁₀.stays n₁₁.stays)) n₁₁.list (fun v hv' => pairD_reads k₁ (hy₁ v (pp₁.mem_iff.mp hv'))) (fun v hv' => pairD_reads n₁₁.stays (hy₂ v (pp₂.mem_iff.mp hv'))) (fun v _ => pairD_ok _ v) (pairD_map ?_) (by have := R'.un; omega) ?_
  · refine any_same_P hms ey₁ ey₂ fun j hj => ?_
    obtain ⟨T, k, t, u, e, hT⟩ := hv j vs[j] (List.getElem?_eq_getElem hj)
    rw [e, PairI.dat_eq hT]
  · exact h h₁₁ _ (g₆.trans (Gro.of_none (g₇.trans (n₈.toGro.trans (n₉.toGro.trans (n₁₀.toGro.trans n₁₁.toGro)))))) ⟨_, n₁₁.stays _ _ (n₁₀.stays _ _ (n₉.stays _ _ (n₈.stays _ _ (g₇.stays _ _ hP₆))))⟩
end
end Mine

namespace Mine
local macro_rules | `(tactic| tb_start) => `(tactic| repeat' (first | exact List.forall_mem_nil _ | refine List.forall_mem_cons.mpr ⟨?_, ?_⟩ | exact Or.inl rfl | exact Or.inr ⟨by (dsimp only; decide), by k_mem⟩))
theorem kinds_count : ∀ (us : List Value), (∀ v ∈ us, Kind v) → us.countP isHoleV + (us.filter isIntV).length + us.countP noneV = us.length
  | [], _ => rfl
  | v :: us, h => by
    have ih := kinds_count us fun u hu => h u (List.mem_cons_of_mem _ hu)
    have hv := h v (List.mem_cons_self ..)
    rw [List.countP_cons, List.countP_cons, List.filter_cons, List.length_cons]
    cases hv with
    | hole =>
      rw [if_pos (show isHoleV (.ref 30) = true from rfl), if_neg (show ¬ isIntV (.ref 30) = true by decide), if_neg (show ¬ noneV (.ref 30) = true by decide)]
      omega
    | none =>
      rw [if_neg (show ¬ isHoleV .none = true by decide), if_neg (show ¬ isIntV .none = true by decide), if_pos (show noneV .none = true from rfl)]
      omega
    | int i t =>
      rw [if_neg (show ¬ isHoleV (.int i t) = true from Bool.false_ne_true), if_pos (show isIntV (.int i t) = true from rfl), if_neg (show ¬ noneV (.int i t) = true from Bool.false_ne_true), List.length_cons]
      omega
/-- the data of an int or None -/
def valD : Value → Dat
  | .int i _ => .int i
  | _ => .none
theorem valD_ok (v : Value) : kqdOk 8 (valD v) = true := by cases v <;> rfl
theorem valD_reads {h : Heap} {v : Value} (hv : isIntV v = true ∨ v = .none) : ∃ as, Reads h v (kqdP (valD v)) as := by
  rcases hv with hv | rfl
  · cases v <;> first | exact ⟨_, Reads.int _ _⟩ | cases hv
  · exact ⟨_, Reads.none⟩
theorem ends_same {H : Heap} {ys fs : List Value} (e : ys.map (fun y => (dat H y).1) = fs.map intOf) (hf : ∀ v ∈ fs, isIntV v = true) (hy : ∀ y ∈ ys, PairI H y) :
    (msort (fun v u => decide (intOf u < intOf v)) fs).map valD = ((plainL (leP H) ys).map (itemAt H 0)).map valD := by
  rw [msort_int]
  have h1 := plainL_map (fun a b : Int => decide (a ≤ b)) intOf fs
  have h2 := plainL_map (fun a b : Int => decide (a ≤ b)) (fun y => (dat H y).1) ys
  rw [e, ← h1] at h2
  have h3 := congrArg (List.map Dat.int) h2
  rw [List.map_map, List.map_map] at h3
  have e1 : (plainL (fun x y => decide (intOf x ≤ intOf y)) fs).map valD = (plainL (fun x y => decide (intOf x ≤ intOf y)) fs).map (Dat.int ∘ intOf) := List.map_congr_left fun v hv => by
    have := hf v ((plainL_perm _ _).mem_iff.mp hv)
    cases v <;> first | rfl | cases this
  have e2 : ((plainL (leP H) ys).map (itemAt H 0)).map valD = (plainL (leP H) ys).map (Dat.int ∘ fun y => (dat H y).1) := by
    rw [List.map_map]
    refine List.map_congr_left fun v hv => ?_
    obtain ⟨t, u, e0, _⟩ := (hy v ((plainL_perm _ _).mem_iff.mp hv)).dat
    show valD (itemAt H 0 v) = Dat.int (dat H v).1
    rw [e0]
    rfl
  rw [e1, e2]
  exact h3.symm
theorem some_ne {a b : Nat} (h : a ≠ b) : (some a : Option Addr) ≠ some b := fun z => h (Option.some.inj z)
structure IntsK (src : List Value) (N i : Nat) (ys : List Value) (h : Heap) : Prop where
  len : ys.length = ((src.take i).filter isIntV).length
  each : ∀ (j : Nat) y, ys[j]? = some y → ∃ (T : Nat) (k : Int) (t u : Tok), ((src.take i).filter isIntV)[j]? = some (.int k t) ∧ y = .ref T ∧ N ≤ T ∧ IsTup h T [Value.int k t, .int 0 u].toArray
theorem IntsK.skip {src ys : List Value} {N i : Nat} {h h' : Heap} {v : Value} (K : IntsK src N i ys h) (k : h.StaysIn h') (hv : src[i]? = some v) (hn : isIntV v = false) : IntsK src N (i + 1) ys h' := by
  have e : (src.take (i + 1)).filter isIntV = (src.take i).filter isIntV := by
    rw [List.take_add_one, hv, List.filter_append]
    show _ ++ List.filter isIntV [v] = _
    rw [List.filter_cons, hn]
    simp
  refine ⟨by rw [e]; exact K.len, fun j y ey => ?_⟩
  rw [e]
  obtain ⟨T, k', t, u, ev, ey, hN, hT⟩ := K.each j y ey
  exact ⟨T, k', t, u, ev, ey, hN, isTup_stays hT k⟩
theorem IntsK.take {src ys : List Value} {N i T : Nat} {h h' : Heap} {x : Int} {t u : Tok} (K : IntsK src N i ys h) (k : h.StaysIn h') (hv : src[i]? = some (.int x t)) (hN : N ≤ T) (hT : IsTup h' T [Value.int x t, .int 0 u].toArray) : IntsK src N (i + 1) (ys ++ [.ref T]) h' := by
  have e : (src.take (i + 1)).filter isIntV = (src.take i).filter isIntV ++ [.int x t] := by
    rw [List.take_add_one, hv, List.filter_append]
    rfl
  refine ⟨by rw [e, List.length_append, List.length_append, K.len]; rfl, fun j y ey => ?_⟩
  rw [e]
  rcases get_snoc ey with ey | ⟨rfl, rfl⟩
  · obtain ⟨T, k', t, u, ev, ey, hN, hT⟩ := K.each j y ey
    have hj : j < ((src.take i).filter isIntV).length := by
      rcases Nat.lt_or_ge j ((src.take i).filter isIntV).length with h | h
      · exact h
      · rw [List.getElem?_eq_none h] at ev; cases ev
    exact ⟨T, k', t, u, by rw [List.getElem?_append_left hj]; exact ev, ey, hN, isTup_stays hT k⟩
  · exact ⟨T, x, t, u, by rw [K.len, List.getElem?_append_right (Nat.le_refl _), Nat.sub_self]; rfl, rfl, hN, hT⟩
section
variable {prog : Program} {w : World} {p : Program} {loose : List Str} {mean : ExcName → Option Value} {mg mb : Str → Option Value}
set_option maxHeartbeats 4000000 in
theorem ends_right_spec {A : Around} {s : Shared} {a : Addr} {vs : List Value} {ns : List Int} {Q E : Value → Shared → Prop} (R : Room A 10) (G : GD p loose mean mg mb w (hideO s.heap (some 106))) (C : CodeHd (hideO s.heap (some 106)) 108 106)
    (hP : s.heap.get? 106 = some (tabObj #[])) (hl : (hideO s.heap (some 106)).IsList a vs.toArray) (hi' : IntsAre vs ns) (hsz : vs.length ≤ 30)
    (h : ∀ h' tk, Gro (some 106) s.heap h' → GrownAt 106 h' → Q (.bool true) { s with heap := h', toks := tk }) :
    wpAny (model prog w) A (call (.ref 109) [.ref a]) Q E s := by
  have G' := G.keeps (hideO_stays s.heap (some 106))
  refine callDef (binds := [(Str.ofString "numbers", .ref a)]) R (G'.X 109 _ (by rfl)) rfl G'.T.nolimit (codeRec_of G'.X (by rfl)) rfl (by rfl) (by decide) (locs rfl) (of_decide_eq_true rfl) (fun h₁ A' E' R' F0 => ?_) rfl rfl rfl
  show wpAny _ _ (execs _ (envX (Str.ofString "_law_ends_right") _ s.heap.objs.size 109 (.ref 108) [])) _ _ _
  have F : FL (hideO s.heap (some 106)) s.heap.objs.size h₁ _ := off_new F0
  have hP₁ : h₁.get? 106 = some (tabObj #[]) := F0.keep _ _ hP
  clear F0
  have hSP : (hideO s.heap (some 106)).get? 106 = none := hideO_self _ rfl
  have hL1 : @LT.lt Nat _ s.heap.objs.size h₁.objs.size := F.lo.lt
  have hSn : ∀ b : Nat, s.heap.objs.size ≤ b → (hideO s.heap (some 106)).get? b = none := fun b hb => by
    cases e : (hideO s.heap (some 106)).get? b with
    | none => rfl
    | some o => have := ltS (hideO_stays _ _ _ _ e); omega
  have h106 : @LT.lt Nat _ 106 s.heap.objs.size := ltS hP
  refine wpAny_execs_cons (wpAny_Assign_Name (wpAny_List (args_nil ⟨by decide, ?_⟩)))
  refine stL (l' := [(Str.ofString "values", .ref h₁.objs.size), (Str.ofString "numbers", .ref a)]) (F.push _) (fun h₂ F₂ s₂ => ?_)
  have P₂ : h₂.PlainList h₁.objs.size ([] : List Value).toArray := PlainList.but (PlainList.new h₁ []) s₂ (neA (by omega))
  have z₂ : h₂.objs.size = h₁.objs.size + 1 := by rw [s₂.1]; dsimp only; rw [Heap.size_push]
  have hP₂ : h₂.get? 106 = some (tabObj #[]) := (s₂.2 _ (neA (by omega))).trans (Heap.get?_push_of_some _ hP₁)
  have hal : @LT.lt Nat _ a h₂.objs.size := isList_lt (isList_stays hl F₂.keep)
  have has : @LT.lt Nat _ a s.heap.objs.size := isList_lt (isList_stays hl (hideO_stays _ _))
  have W := Walks.list (prog := prog) (w := w) R'.hh h₂.objs.size a (neA (by omega)) vs.toArray
  refine wpAny_execs_cons (forW (nmL F₂ (wpAny_pyIter_list (isList_stays hl F₂.keep) ⟨h₂.objs.size, _, _, _, _, _, fun i s' => ∃ (us : List Value) (h' : Heap) (tk : Nat) (l : List (Str × Value)), s' = { s with heap := h', toks := tk } ∧
      FL (hideO s.heap (some 106)) s.heap.objs.size h' ((Str.ofString "values", .ref h₁.objs.size) :: (Str.ofString "numbers", .ref a) :: l) ∧ us.length = i ∧ (∀ v ∈ us, Kind v) ∧
      h'.PlainList h₁.objs.size us.toArray ∧ h'.IsListIter h₂.objs.size a i ∧ h₂.objs.size < h'.objs.size ∧ h'.get? 106 = some (tabObj #[]), rfl, W, ?_, ?_, ?_, ?_⟩)))
  · rintro i s' ⟨us, h', tk, l, rfl, F₃, _, _, _, hI, _, _⟩
    exact ⟨hI, isList_stays hl F₃.keep⟩
  · exact ⟨[], _, _, [], rfl, F₂.push _, rfl, nofun, plain_keeps P₂ fun o e => Heap.get?_push_of_some _ e, ⟨_, Heap.get?_push_size _ rfl, rfl, rfl⟩, by dsimp only; rw [Heap.size_push]; omega, Heap.get?_push_of_some _ hP₂⟩
  · rintro i s' v h₃ tk₃ E₃ hi ⟨us, h', tk, l, rfl, F₃, hul, huk, P₃, hI₃, hsz₃, hP₃⟩ hv ⟨hI₄, _⟩ hk₄ hsz₄
    dsimp only at hsz₄
    have hw : ∀ b : Nat, b ≠ h₂.objs.size → b ∉ [h₂.objs.size] := fun b hb z => hb (List.mem_singleton.mp z)
    have F₄ : FL (hideO s.heap (some 106)) s.heap.objs.size h₃ _ := F₃.to fun b o hb e => hk₄ b o (hw b fun z => by
      rcases hb with rfl | hb
      · omega
      · rw [hSn b (by omega)] at hb; cases hb) e
    have P₄ : h₃.PlainList h₁.objs.size us.toArray := plain_keeps P₃ fun o e => hk₄ _ o (hw _ (by omega)) e
    have hP₄ : h₃.get? 106 = some (tabObj #[]) := hk₄ _ _ (hw _ (by omega)) hP₃
    obtain ⟨m, um, rfl, _⟩ := hi'.at i v (by simpa using hv)
    refine stL (l' := [(Str.ofString "n", .int m um), (Str.ofString "values", .ref h₁.objs.size), (Str.ofString "numbers", .ref a)]) F₄ (fun h₅ F₅ s₅ => ?_)
    have P₅ := PlainList.but P₄ s₅ (neA (by omega))
    have hP₅ := (s₅.2 106 (neA (by omega))).trans hP₄
    have G₅ := G.keeps F₅.keep
    have hil : i < vs.length := by simpa using hi
    have szu : us.toArray.size ≤ sizeLine := by rw [List.size_toArray]; exact Nat.le_trans (by omega : us.length ≤ 1000) (by decide)
    have fin : ∀ (x : Value), Kind x → ∀ (h₆ : Heap) tk, h₆.PlainList h₁.objs.size (us.toArray.push x) → Heap.SameBut h₁.objs.size h₅ h₆ →
        ∃ (us : List Value) (h' : Heap) (tk' : Nat) (l : List (Str × Value)), ({ s with heap := h₆, toks := tk } : Shared) = { s with heap := h', toks := tk' } ∧
        FL (hideO s.heap (some 106)) s.heap.objs.size h' ((Str.ofString "values", .ref h₁.objs.size) :: (Str.ofString "numbers", .ref a) :: l) ∧ us.length = i + 1 ∧ (∀ v ∈ us, Kind v) ∧
        h'.PlainList h₁.objs.size us.toArray ∧ h'.IsListIter h₂.objs.size a (i + 1) ∧ h₂.objs.size < h'.objs.size ∧ h'.get? 106 = some (tabObj #[]) := fun x hx h₆ tk P₆ s₆ => by
      rw [List.push_toArray] at P₆
      refine ⟨us ++ [x], h₆, tk, [], rfl, (F₅.but s₆ (neA (by omega)) (hSn _ (by omega))).sub fun p hp => .tail _ hp, by rw [List.length_append, hul]; rfl, fun v hv => ?_, P₆, ?_, ?_, (s₆.2 106 (neA (by omega))).trans hP₅⟩
      · rcases List.mem_append.mp hv with hv | hv
        · exact huk v hv
        · rw [List.mem_singleton.mp hv]; exact hx
      · exact hI₄.at fun o e => (s₆.2 _ (neA (by omega))).trans ((s₅.2 _ (neA (by omega))).trans e)
      · have := s₆.1; have := s₅.1; dsimp only at *; omega
    refine wpAny_execs_cons (appendS F₅ P₅ (wpAny_IfExp (wpAny_isTrue_Compare1 (wpAny_BinOp (nmL F₅ (wpAny_Constant_int (mod_int' (by decide) (wpAny_Constant_int (eq_int (wpAny_truthy_bool ?_))))))))))
    cases hb : (m.fmod 5 == 3) with
    | true =>
      rw [if_pos rfl]
      exact nmG G₅ (v := .ref 30) (by rfl) ⟨_, P₅, szu, fun h₆ P₆ s₆ => wpAny_execs_nil ⟨rfl, fin _ .hole h₆ _ P₆ s₆⟩⟩
    | false =>
      rw [if_neg (by decide)]
      refine wpAny_IfExp (wpAny_isTrue_Compare1 (wpAny_BinOp (nmL F₅ (wpAny_Constant_int (mod_int' (by decide) (wpAny_Constant_int (eq_int (wpAny_truthy_bool ?_))))))))
      cases hb : (m.fmod 5 == 4) with
      | true =>
        rw [if_pos rfl]
        exact wpAny_Constant_none ⟨_, P₅, szu, fun h₆ P₆ s₆ => wpAny_execs_nil ⟨rfl, fin _ .none h₆ _ P₆ s₆⟩⟩
      | false =>
        rw [if_neg (by decide)]
        exact wpAny_BinOp (nmL F₅ (wpAny_Constant_int (mod_int' (by decide) ⟨_, P₅, szu, fun h₆ P₆ s₆ => wpAny_execs_nil ⟨rfl, fin _ (.int _ _) h₆ _ P₆ s₆⟩⟩)))
  · rintro s' h₃ tk₃ ⟨us, h', tk, l, rfl, F₃, hul, huk, P₃, hI₃, hsz₃, hP₃⟩ hk₄ hsz₄
    dsimp only at hsz₄
    have hw : ∀ b : Nat, b ≠ h₂.objs.size → b ∉ [h₂.objs.size] := fun b hb z => hb (List.mem_singleton.mp z)
    have F₄ : FL (hideO s.heap (some 106)) s.heap.objs.size h₃ _ := F₃.to fun b o hb e => hk₄ b o (hw b fun z => by
      rcases hb with rfl | hb
      · omega
      · rw [hSn b (by omega)] at hb; cases hb) e
    have P₄ : h₃.PlainList h₁.objs.size us.toArray := plain_keeps P₃ fun o e => hk₄ _ o (hw _ (by omega)) e
    have hP₄ : h₃.get? 106 = some (tabObj #[]) := hk₄ _ _ (hw _ (by omega)) hP₃
    have hz4 : h₂.objs.size < h₃.objs.size := by omega
    clear hk₄ hsz₄ hI₃ hsz₃ P₃ F₃ hP₃
    simp only [List.size_toArray] at hul
    have hP3 : @LT.lt Nat _ h₁.objs.size h₃.objs.size := plain_lt P₄
    have G₃ := G.keeps F₄.keep
    refine wpAny_execs_cons (lcA (env := envX (Str.ofString "_law_ends_right") _ s.heap.objs.size 109 (.ref 108) []) (cl := []) (S := hideO s.heap (some 106)) (L := s.heap.objs.size) (l := [(Str.ofString "values", .ref h₁.objs.size), (Str.ofString "numbers", .ref a)]) (by rfl) (by rfl) (by decide) (by rfl) (by decide)
      (nmL F₄ (wpAny_pyIter_list P₄.isList ⟨h₃.objs.size, _, _, _, _, _, IntsK us, h₃, rfl, ⟨fun C => Src.name (Walks.list R'.hh h₃.objs.size h₁.objs.size (neA (by omega)) us.toArray) (by rfl) (by rfl), ?_, ⟨⟨_, Heap.get?_push_size _ rfl, rfl, rfl⟩, P₄.isList.push _⟩, fpl2 hP3, stays_push (stays_refl _) _, ?_, wrn1 h₃, ?_, ?_, ?_⟩, F₄.sub (fun p hp => List.mem_of_mem_take (i := 2) (by simpa using hp)), ?_⟩)) (hy := ?_))
    · rw [List.size_toArray]; exact Nat.le_trans (by omega : us.length ≤ 1000) (by decide)
    · dsimp only; rw [Heap.size_push]; omega
    · exact fun N h => ⟨rfl, fun j y e => by cases e⟩
    · exact fun N i ys h h' K k => ⟨K.len, fun j y e => by
        obtain ⟨T, k', t, u, ev, ey, hN, ⟨o, eo, r⟩⟩ := K.each j y e
        exact ⟨T, k', t, u, ev, ey, hN, o, k T o hN eo, r⟩⟩
    · rintro N C i ys bs s₅ E₅ hi ⟨v, hv', rfl⟩ hN hN' F₅ K₅
      have hv'' : us[i]? = some v := by simpa using hv'
      have hkv := huk v (List.mem_of_getElem? hv'')
      have ht : us.take (i + 1) = us.take i ++ [v] := by rw [List.take_add_one, hv'']; rfl
      have G₅ := G₃.keeps F₅.keep
      refine tests_one (wpAny_isTrue_BoolOp (wpAny_allTrue_And_cons (wpAny_isTrue_Compare1 (nmL F₅ (wpAny_Constant_none (isNot_none (wpAny_truthy_bool ?_)))))))
      cases hkv with
      | none =>
        rw [if_neg (show ¬ (!(Value.none == Value.none)) = true from by decide), if_neg (by decide)]
        exact ⟨_, _, rfl, stays_refl _, K₅.skip (stays_refl _) hv'' rfl⟩
      | hole =>
        rw [if_pos (show (!(Value.ref 30 == Value.none)) = true from by decide)]
        refine wpAny_allTrue_And_cons (wpAny_isTrue_Not (wpAny_isTrue_value (callG G₅ (by rfl) (by rfl) rfl (args_cons (nmL F₅ (args_nil ⟨G₅, hole_spec (R'.le (by decide)) G₅ .hole fun h₆ tk₆ g₆ => wpAny_truthy_bool ?_⟩))))))
        rw [if_neg (show ¬ (!isHoleV (.ref 30)) = true by decide), if_neg (by decide)]
        exact ⟨h₆, _, rfl, g₆.stays, K₅.skip g₆.stays hv'' rfl⟩
      | int x t =>
        rw [if_pos (show (!(Value.int x t == Value.none)) = true from by simp)]
        refine wpAny_allTrue_And_cons (wpAny_isTrue_Not (wpAny_isTrue_value (callG G₅ (by rfl) (by rfl) rfl (args_cons (nmL F₅ (args_nil ⟨G₅, hole_spec (R'.le (by decide)) G₅ (.int x t) fun h₆ tk₆ g₆ => wpAny_truthy_bool ?_⟩))))))
        rw [if_pos (show (!isHoleV (.int x t)) = true from rfl)]
        refine wpAny_allTrue_And_nil ?_
        rw [if_pos rfl]
        have F₆ := F₅.gro₀ g₆
        refine wpAny_Tuple (args_cons (nmL F₆ (args_cons (wpAny_Constant_int (args_nil ⟨by show 2 ≤ sizeLine; decide, _, _, rfl, stays_push g₆.stays _, ?_⟩)))))
        exact K₅.take (stays_push g₆.stays _) hv'' (Nat.le_trans hN' g₆.size) (IsTup.new _ _)
    · intro D₅ h₅ tk₅ ys N keep₅ hz₅ hD₅ P₅ K₅ hN F₅
      have hN' : @LE.le Nat _ h₃.objs.size N := by dsimp only at hN; rw [Heap.size_push] at hN; omega
      clear hN
      rw [List.size_toArray] at K₅
      have hP₅ : h₅.get? 106 = some (tabObj #[]) := keep₅ _ _ (neA (by omega)) hP₄
      have PV₅ : h₅.PlainList h₁.objs.size us.toArray := plain_keeps P₄ fun o e => keep₅ _ o (neA (by omega)) e
      have hfl : ((us.take us.length).filter isIntV).length ≤ us.length := Nat.le_trans (List.length_filter_le _ _) (by simp)
      have hyl := K₅.len
      have G₅ := G.keeps F₅.keep
      have hP5 : @LT.lt Nat _ h₁.objs.size h₅.objs.size := plain_lt PV₅
      have hz5 : @LE.le Nat _ h₃.objs.size h₅.objs.size := hz₅
      have hD5 : @LE.le Nat _ h₃.objs.size D₅ := hD₅
      clear hz₅ hD₅ keep₅
      refine wpAny_execs_cons (wpAny_Assign_Name (callB G₅ (by rfl) boot_len (args_cons (lcE (cl := []) (by rfl) (by decide) (by rfl) (by decide) (nmL F₅ (wpAny_pyIter_list PV₅.isList ⟨h₅.objs.size, _, _, _, _, _, fun N i ys h => ys = (us.take i).filter noneV, h₅, rfl, ⟨fun C => Src.name (Walks.list R'.hh h₅.objs.size h₁.objs.size (neA (by omega)) us.toArray) (by rfl) (by rfl), ?_, ⟨⟨_, Heap.get?_push_size _ rfl, rfl, rfl⟩, PV₅.isList.push _⟩, fpl2 hP5, stays_push (stays_refl _) _, ?_, wrn1 h₅, ?_, ?_, ?_⟩, ?_⟩))))))
      · rw [List.size_toArray]; exact Nat.le_trans (by omega : us.length ≤ 1000) (by decide)
      · dsimp only; rw [Heap.size_push]; omega
      · exact fun N h => rfl
      · exact fun N i ys h h' K k => K
      · rintro N₆ C i zs bs s₆ E₆ hi ⟨v, hv', rfl⟩ hN₆ hN₆' F₆ rfl
        have hv'' : us[i]? = some v := by simpa using hv'
        have hkv := huk v (List.mem_of_getElem? hv'')
        have ht : us.take (i + 1) = us.take i ++ [v] := by rw [List.take_add_one, hv'']; rfl
        rw [ht, List.filter_append]
        refine tests_one (wpAny_isTrue_Compare1 (nmL F₆ (wpAny_Constant_none (is_none (wpAny_truthy_bool ?_)))))
        cases hkv with
        | none =>
          rw [if_pos (show (Value.none == Value.none) = true from by decide)]
          exact nmL F₆ ⟨_, _, rfl, stays_refl _, rfl⟩
        | hole =>
          rw [if_neg (show ¬ (Value.ref 30 == Value.none) = true from by decide)]
          exact ⟨_, _, rfl, stays_refl _, (List.append_nil _).symm⟩
        | int x t =>
          rw [if_neg (show ¬ (Value.int x t == Value.none) = true from by simp)]
          exact ⟨_, _, rfl, stays_refl _, (List.append_nil _).symm⟩
      · intro D₆ h₆ tk₆ zs N₆ n₆ K₆ hN₆
        clear hN₆
        have ez : zs = us.filter noneV := by simpa using K₆
        subst ez
        clear K₆
        have hcn : (us.filter noneV).length = us.countP noneV := List.countP_eq_length_filter.symm
        have hcl : us.countP noneV ≤ us.length := List.countP_le_length
        refine args_nil (lenL n₆.list (by omega) fun t₆ tk₆' => ?_)
        rw [hcn]
        refine stL (l' := [(Str.ofString "absent", .int (us.countP noneV : Nat) t₆), (Str.ofString "plain", .ref D₅), (Str.ofString "values", .ref h₁.objs.size), (Str.ofString "numbers", .ref a)]) (F₅.gro₀ n₆.toGro) (fun h₇ F₇ s₇ => ?_)
        have g₇ : ∀ b o, b ≠ s.heap.objs.size → h₅.get? b = some o → h₇.get? b = some o := fun b o hb e => (s₇.2 _ hb).trans (n₆.stays _ _ e)
        have hP₇ : h₇.get? 106 = some (tabObj #[]) := g₇ _ _ (neA (by omega)) hP₅
        have PV₇ : h₇.PlainList h₁.objs.size us.toArray := plain_keeps PV₅ fun o e => g₇ _ o (neA (by omega)) e
        have PD₇ : h₇.PlainList D₅ ys.toArray := plain_keeps P₅ fun o e => g₇ _ o (neA (by omega)) e
        have K₇ : IntsK us N us.length ys h₇ := ⟨K₅.len, fun j y e => by
          obtain ⟨T, k', t, u, ev, ey, hN, ⟨o, eo, r⟩⟩ := K₅.each j y e
          exact ⟨T, k', t, u, ev, ey, hN, o, g₇ T o (neA (by omega)) eo, r⟩⟩
        have z₇ : @LE.le Nat _ h₅.objs.size h₇.objs.size := by have := s₇.1; have := n₆.size; dsimp only at *; omega
        have G₇ := G.keeps F₇.keep
        have hpd : ∀ v ∈ ys, PairI h₇ v := fun v hv => by
          obtain ⟨j, hj, rfl⟩ := List.mem_iff_getElem.mp hv
          obtain ⟨T, k', t, u, _, ey, _, hT⟩ := K₇.each j ys[j] (List.getElem?_eq_getElem hj)
          exact ⟨T, k', 0, t, u, ey, hT⟩
        refine wpAny_execs_cons (wpAny_Assign_Name (wpAny_BinOp (lcE (cl := []) (by rfl) (by decide) (by rfl) (by decide) (callG G₇ (by rfl) (by rfl) rfl (args_cons (nmL F₇ (args_nil ⟨G₇, plain_pairs (H := h₇) R' G₇ PD₇.isList (by omega) (stays_refl _) hpd fun h₈ tk₈ c₈ n₈ => ?_⟩)))))))
        have pp := plainL_perm (leP h₇) ys
        generalize hpl : plainL (leP h₇) ys = pl at n₈ pp
        have hpl' := pp.length_eq
        have hc₈ : @LT.lt Nat _ c₈ h₈.objs.size := plain_lt n₈.lst
        refine wpAny_pyIter_list n₈.list ⟨h₈.objs.size, _, _, _, _, _, fun N i qs h => qs = (pl.take i).map (itemAt h₇ 0), h₈, rfl, ⟨fun C => Src.name (Walks.list R'.hh h₈.objs.size c₈ (neA (by omega)) pl.toArray) (by rfl) (by rfl), ?_, ⟨⟨_, Heap.get?_push_size _ rfl, rfl, rfl⟩, n₈.list.push _⟩, fpl2 hc₈, stays_push (stays_refl _) _, ?_, wrn1 h₈, ?_, ?_, ?_⟩, ?_⟩
        · rw [List.size_toArray]; exact Nat.le_trans (by omega : pl.length ≤ 1000) (by decide)
        · dsimp only; rw [Heap.size_push]; omega
        · exact fun N h => rfl
        · exact fun N i ys h h' K k => K
        · rintro N₉ C i qs bs s₉ E₉ hi₉ ⟨v, hv', rfl⟩ hN₉ hN₉' F₉ K₉
          refine tests_nil ?_
          rw [if_pos rfl]
          have hv'' : pl[i]? = some v := by simpa using hv'
          have hpv := hpd v (pp.mem_iff.mp (List.mem_of_getElem? hv''))
          refine Subscript_ (nmL F₉ (wpAny_Constant_int (itemN (hpv.item 0 (by decide)) (stays_trans n₈.stays F₉.keep) rfl (by decide) ⟨_, _, rfl, stays_refl _, ?_⟩)))
          rw [K₉, List.take_add_one, hv'', List.map_append]
          rfl
        · intro D₉ h₉ tk₉ qs N₉ n₉ K₉ hN₉
          clear hN₉
          have eq : qs = pl.map (itemAt h₇ 0) := by simpa using K₉
          subst eq
          clear K₉
          have F₉ := (F₇.gro₀ n₈.toGro).gro₀ n₉.toGro
          refine wpAny_BinOp (wpAny_List (args_cons (wpAny_Constant_none (args_nil ⟨by decide, ?_⟩))))
          have n₁₀ := NewL.pushed h₉ [Value.none]
          refine nmL (F₉.push _) (mulNone (n := us.countP noneV) n₁₀.lst (by omega) fun h₁₁ c₁₁ n₁₁ => ?_)
          refine addL (isList_stays (isList_stays n₉.list n₁₀.stays) n₁₁.stays) n₁₁.list (by rw [List.length_replicate, List.length_map]; exact Nat.le_trans (by omega : _ ≤ 3000) (by decide)) fun h₁₂ c₁₂ n₁₂ => ?_
          have g : Gro none h₇ h₁₂ := n₈.toGro.trans (n₉.toGro.trans (n₁₀.toGro.trans (n₁₁.toGro.trans n₁₂.toGro)))
          have hge : @LE.le Nat _ h₇.objs.size c₁₂ := Nat.le_trans (n₈.toGro.trans (n₉.toGro.trans (n₁₀.toGro.trans n₁₁.toGro))).size n₁₂.ge
          have P₁₂ := n₁₂.lst
          clear n₉ n₁₀ n₁₁ n₁₂ F₉
          refine stL (l' := [(Str.ofString "due", .ref c₁₂), (Str.ofString "absent", .int (us.countP noneV : Nat) t₆), (Str.ofString "plain", .ref D₅), (Str.ofString "values", .ref h₁.objs.size), (Str.ofString "numbers", .ref a)]) (F₇.gro₀ g) (fun h₁₃ F₁₃ s₁₃ => ?_)
          have g₁₃ : ∀ b o, b ≠ s.heap.objs.size → h₇.get? b = some o → h₁₃.get? b = some o := fun b o hb e => (s₁₃.2 _ hb).trans (g.stays _ _ e)
          have hP₁₃ : h₁₃.get? 106 = some (tabObj #[]) := g₁₃ _ _ (neA (by omega)) hP₇
          have PV₁₃ : h₁₃.PlainList h₁.objs.size us.toArray := plain_keeps PV₇ fun o e => g₁₃ _ o (neA (by omega)) e
          have PD₁₃ : h₁₃.PlainList D₅ ys.toArray := plain_keeps PD₇ fun o e => g₁₃ _ o (neA (by omega)) e
          have PU₁₃ := PlainList.but P₁₂ s₁₃ (neA (by omega))
          have z₁₃ : @LE.le Nat _ h₇.objs.size h₁₃.objs.size := by have := s₁₃.1; have := g.size; dsimp only at *; omega
          have G₁₃ := G.keeps F₁₃.keep
          refine wpAny_execs_cons (Assign_Tuple (callG G₁₃ (by rfl) (by rfl) rfl (args_cons (nmL F₁₃ (args_nil ⟨G₁₃, split_spec (R'.le (by decide)) G₁₃ PV₁₃.isList (by omega) huk fun h₁₄ tk₁₄ c t u1 u2 g₁₄ hc Pc ht T₁₄ => ?_⟩)))))
          have F₁₄ := F₁₃.gro₀ g₁₄
          refine assign_Tuple_tuple R'.hh T₁₄ rfl rfl fun h₁₅ he₁₅ => ?_
          have hk₁₅ : h₁₄.StaysIn h₁₅ := fun b o e => he₁₅ b o (Nat.ne_of_lt (Heap.lt_size e)) e
          have F₁₅ := F₁₄.grow hk₁₅
          have hc' : @LE.le Nat _ h₁₃.objs.size c := hc
          have hc12 : @LT.lt Nat _ c₁₂ h₁₃.objs.size := plain_lt PU₁₃
          clear hc ht
          refine assignInOrder_cons (wpAny_assign_Name (stL (l' := [(Str.ofString "kept", .ref c), (Str.ofString "due", .ref c₁₂), (Str.ofString "absent", .int (us.countP noneV : Nat) t₆), (Str.ofString "plain", .ref D₅), (Str.ofString "values", .ref h₁.objs.size), (Str.ofString "numbers", .ref a)]) F₁₅ (fun h₁₆ F₁₆ s₁₆ => ?_)))
          refine assignInOrder_cons (wpAny_assign_Name (stL (l' := [(Str.ofString "many", .int (us.countP noneV : Nat) u1), (Str.ofString "kept", .ref c), (Str.ofString "due", .ref c₁₂), (Str.ofString "absent", .int (us.countP noneV : Nat) t₆), (Str.ofString "plain", .ref D₅), (Str.ofString "values", .ref h₁.objs.size), (Str.ofString "numbers", .ref a)]) F₁₆ (fun h₁₇ F₁₇ s₁₇ => ?_)))
          refine assignInOrder_cons (wpAny_assign_Name (stL (l' := [(Str.ofString "holes", .int (us.countP isHoleV : Nat) u2), (Str.ofString "many", .int (us.countP noneV : Nat) u1), (Str.ofString "kept", .ref c), (Str.ofString "due", .ref c₁₂), (Str.ofString "absent", .int (us.countP noneV : Nat) t₆), (Str.ofString "plain", .ref D₅), (Str.ofString "values", .ref h₁.objs.size), (Str.ofString "numbers", .ref a)]) F₁₇ (fun h₁₈ F₁₈ s₁₈ => assignInOrder_nil ?_)))
          have g₁₈ : ∀ (b : Nat) o, b ≠ s.heap.objs.size → h₁₃.get? b = some o → h₁₈.get? b = some o := fun b o hb e => (s₁₈.2 _ (neA hb)).trans ((s₁₇.2 _ (neA hb)).trans ((s₁₆.2 _ (neA hb)).trans (hk₁₅ _ _ (g₁₄.stays _ _ e))))
          have hP₁₈ : h₁₈.get? 106 = some (tabObj #[]) := g₁₈ _ _ (by omega) hP₁₃
          have PV₁₈ : h₁₈.PlainList h₁.objs.size us.toArray := plain_keeps PV₁₃ fun o e => g₁₈ _ o (by omega) e
          have PD₁₈ : h₁₈.PlainList D₅ ys.toArray := plain_keeps PD₁₃ fun o e => g₁₈ _ o (by omega) e
          have PU₁₈ := plain_keeps PU₁₃ (h' := h₁₈) fun o e => g₁₈ c₁₂ o (by omega) e
          have Pc₁₈ := PlainList.but (PlainList.but (PlainList.but (plain_keeps Pc fun o e => hk₁₅ _ _ e) s₁₆ (neA (by omega))) s₁₇ (neA (by omega))) s₁₈ (neA (by omega))
          have hk₀ : ∀ (b : Nat) o, b ≠ s.heap.objs.size → h₇.get? b = some o → h₁₈.get? b = some o := fun b o hb e => g₁₈ b o hb (g₁₃ b o (neA hb) e)
          have G₁₈ := G.keeps F₁₈.keep
          clear PV₁₃ PD₁₃ PU₁₃ Pc F₁₃ F₁₄ F₁₅ F₁₆ F₁₇ T₁₄ he₁₅ hk₁₅ s₁₆ s₁₇ s₁₈ hP₁₃ G₁₃ g₁₈
          have hyl' : ys.length = (us.filter isIntV).length := by rw [hyl, List.take_of_length_le (Nat.le_refl _)]
          have hkc := kinds_count us huk
          refine wpAny_execs_cons (wpAny_If (wpAny_isTrue_BoolOp (wpAny_allTrue_Or_cons (wpAny_isTrue_Compare1 (callB G₁₈ (by rfl) boot_len (args_cons (nmL F₁₈ (args_nil (lenL Pc₁₈.isList (by omega) fun q1 q2 => callB G₁₈ (by rfl) boot_len (args_cons (nmL F₁₈ (args_nil (lenL PD₁₈.isList (by omega) fun q3 q4 => ne_int (wpAny_truthy_bool ?_))))))))))))))
          rw [if_neg (by simp [hyl'])]
          refine wpAny_allTrue_Or_cons (wpAny_isTrue_Compare1 (nmL F₁₈ (nmL F₁₈ (ne_int (wpAny_truthy_bool ?_)))))
          rw [if_neg (by simp)]
          refine wpAny_allTrue_Or_cons (wpAny_isTrue_Compare1 (nmL F₁₈ (wpAny_BinOp (wpAny_BinOp (callB G₁₈ (by rfl) boot_len (args_cons (nmL F₁₈ (args_nil (lenL PV₁₈.isList (by omega) fun q5 q6 => callB G₁₈ (by rfl) boot_len (args_cons (nmL F₁₈ (args_nil (lenL PD₁₈.isList (by omega) fun q7 q8 => sub_int (nmL F₁₈ (sub_int (ne_int (wpAny_truthy_bool ?_)))))))))))))))))
          rw [if_neg (by rw [bne_iff_ne]; omega)]
          refine wpAny_allTrue_Or_nil ?_
          rw [if_neg (by decide)]
          refine wpAny_execs_nil ?_
          have hne₁ : (some 106 : Option Addr) ≠ some h₁.objs.size := some_ne (by omega)
          have hne₂ : (some 106 : Option Addr) ≠ some c₁₂ := some_ne (by omega)
          refine wpAny_execs_cons (wpAny_Return_some (wpAny_Compare1 (callG G₁₈ (by rfl) (by rfl) rfl (args_cons (nmL F₁₈ (args_cons (kla_eval rfl (lamL (clos := []) F₁₈ G C hP₁₈ hSP (by trivial) rfl (by rfl) fun f c' ctv h₁₉ tk₁₉ F₁₉ g₁₉ hf hfo hrec hP₁₉ => args_nil ⟨G.keeps F₁₉.keep, ?_⟩))))))))
          have G₁₉ := G.keeps F₁₉.keep
          have B : Beh prog w h₁₉ none (fun _ _ => True) f (fun v u => decide (intOf u < intOf v)) (fun v => isIntV v = true) 1 :=
            { fn := ⟨_, _, hfo, rfl⟩
              stable := fun _ _ _ _ _ => trivial
              tells := fun A₅ s₅ x y n Q₅ E₅ R₅ hS₅ hx hy _ _ hq => by
                obtain ⟨i₁, u₁, rfl⟩ : ∃ i t, x = .int i t := by cases x <;> first | exact ⟨_, _, rfl⟩ | cases hx
                obtain ⟨i₂, u₂, rfl⟩ : ∃ i t, y = .int i t := by cases y <;> first | exact ⟨_, _, rfl⟩ | cases hy
                have G₅ := G₁₉.keeps hS₅
                refine callLam (binds := [(Str.ofString "one", .int i₁ u₁), (Str.ofString "other", .int i₂ u₂)]) R₅ (hS₅ _ _ hfo) rfl G₅.T.nolimit (codeRec_keep hrec fun c oc vs e _ => hS₅ _ _ e) rfl (by rfl) (noCells (by rfl)) (locs rfl) (of_decide_eq_true rfl) (fun h₆ A₆ E₆ R₆ F₆ => ?_) rfl rfl rfl
                show wpAny _ _ (eval _ (envX _ _ s₅.heap.objs.size f (.ref c') [])) _ _ _
                have hsz₆ : @LT.lt Nat _ s₅.heap.objs.size h₆.objs.size := F₆.lo.lt
                exact wpAny_Compare1 (nmL F₆ (nmL F₆ (gt_int (hq h₆ _ ⟨F₆.keep, Nat.le_of_lt hsz₆⟩ trivial)))) }
          clear hf
          have PV₁₉ := PlainList.gro PV₁₈ g₁₉ hne₁
          have PU₁₉ := PlainList.gro PU₁₈ g₁₉ hne₂
          refine sort_values_spec (d := 1) (R'.le (by decide)) G₁₉ B PV₁₉.isList huk (by omega) fun h₂₀ tk₂₀ c₂₀ n₂₀ => nmL (F₁₉.gro₀ n₂₀.toGro) ?_
          clear B
          have pm := msort_perm (fun v u => decide (intOf u < intOf v)) (us.filter isIntV)
          have hfi : ∀ v ∈ us.filter isIntV, isIntV v = true := fun v hv => (List.mem_filter.mp hv).2
          refine eq_lists (D := valD) (D' := valD) n₂₀.list (isList_stays PU₁₉.isList n₂₀.stays) (fun v hv => valD_reads ?_) (fun v hv => valD_reads ?_) (fun v _ => valD_ok v) ?_ (by have := R'.un; omega) ?_
          · rcases List.mem_append.mp hv with hv | hv
            · exact .inl (hfi v (pm.mem_iff.mp hv))
            · exact .inr (List.eq_of_mem_replicate hv)
          · rcases List.mem_append.mp hv with hv | hv
            · obtain ⟨y, hy, rfl⟩ := List.mem_map.mp hv
              obtain ⟨t, u, e0, _⟩ := (hpd y (pp.mem_iff.mp hy)).dat
              exact .inl (by rw [e0]; rfl)
            · exact .inr (List.eq_of_mem_replicate hv)
          · rw [List.map_append, List.map_append, ← hpl, ends_same ?_ hfi hpd]
            refine List.ext_getElem (by simp [hyl']) fun j h1 h2 => ?_
            have hj : j < ys.length := by simpa using h1
            rw [List.getElem_map, List.getElem_map]
            obtain ⟨T, k', t, u, ev, ey, _, hT⟩ := K₇.each j ys[j] (List.getElem?_eq_getElem hj)
            rw [List.take_of_length_le (Nat.le_refl _)] at ev
            have ev' : (us.filter isIntV)[j]'(by simpa using h2) = .int k' t := by
              rw [List.getElem?_eq_getElem (by simpa using h2)] at ev
              exact Option.some.inj ev
            rw [ev', ey, PairI.dat_eq hT]
            rfl
          · refine h h₂₀ _ ⟨stays_trans F₁₉.keep n₂₀.stays, ?_⟩ ⟨_, n₂₀.stays _ _ hP₁₉⟩
            have hl19 : @LT.lt Nat _ s.heap.objs.size h₁₉.objs.size := F₁₉.lo.lt
            exact Nat.le_trans (Nat.le_of_lt hl19) n₂₀.size
    · intro q hq
      simp only [List.mem_cons, List.not_mem_nil, or_false] at hq
      rcases hq with rfl | rfl <;> (dsimp only; decide)
end
end Mine

namespace Mine
local macro_rules | `(tactic| tb_start) => `(tactic| repeat' (first | exact List.forall_mem_nil _ | refine List.forall_mem_cons.mpr ⟨?_, ?_⟩ | exact Or.inl rfl | exact Or.inr ⟨by (dsimp only; decide), by k_mem⟩))
theorem pick_upto (xs : List Value) (b : Nat) : slicePick xs.toArray none (some (b : Int)) none = (xs.take b).toArray := by
  rcases Nat.lt_or_ge xs.length b with h | h
  · rw [slicePick_plain]
    have e : clipAt xs.toArray.size (b : Int) = xs.length := by
      have := clipAt_cast xs.toArray.size (b : Int)
      rw [if_neg (by omega)] at this
      simp only [List.size_toArray] at this ⊢
      omega
    simp only [Option.elim]
    rw [e, List.take_of_length_le (Nat.le_of_lt h)]
    simp
  · exact slicePick_upto xs.toArray b (by simpa using h)
def hid (h : Heap) (ps : List Nat) : Heap := ps.foldl (fun h p => h.hide p) h
theorem hid_stays : ∀ (ps : List Nat) (h : Heap), (hid h ps).StaysIn h
  | [], h => stays_refl h
  | p :: ps, h => stays_trans (hid_stays ps (h.hide p)) fun _ _ e => Heap.of_hide e
theorem hid_get : ∀ (ps : List Nat) {h : Heap} {b : Nat} {o : Obj}, h.get? b = some o → b ∉ ps → (hid h ps).get? b = some o
  | [], _, _, _, e, _ => e
  | p :: ps, h, b, o, e, n => hid_get ps (h := h.hide p) (hide_get e (neA fun z => n (z ▸ List.mem_cons_self ..))) fun z => n (List.mem_cons_of_mem _ z)
theorem hid_none : ∀ (ps : List Nat) (h : Heap) (p : Nat), p ∈ ps → (hid h ps).get? p = none
  | q :: ps, h, p, hp => by
    cases e : (hid h (q :: ps)).get? p with
    | none => rfl
    | some o =>
      rcases List.mem_cons.mp hp with rfl | hp
      · have := hid_stays ps (h.hide p) _ _ e
        rw [Heap.hide_self] at this; cases this
      · have := hid_none ps (h.hide q) p hp
        rw [show (hid h (q :: ps)).get? p = (hid (h.hide q) ps).get? p from rfl, this] at e; cases e
theorem FL.base {S h : Heap} {L : Nat} {l} (F : FL S L h l) (ps : List Nat) (hL : L ∈ ps) (hS : ∀ p ∈ ps, p ≠ L → S.get? p = none) : FL (hid h ps) L h l ∧ S.StaysIn (hid h ps) :=
  ⟨⟨F.lo, hid_stays ps h, hid_none ps h L hL⟩, fun b o e => hid_get ps (F.keep b o e) fun hb => by
    rcases Nat.decEq b L with h | h
    · rw [hS b hb h] at e; cases e
    · rw [h, F.off] at e; cases e⟩
/-- the pairs that law builds -/
structure PK (N i : Nat) (ys : List Value) (h : Heap) : Prop where
  len : ys.length = i
  each : ∀ (j : Nat) v, ys[j]? = some v → ∃ (T : Nat) (k : Int) (t u : Tok), v = .ref T ∧ N ≤ T ∧ IsTup h T [Value.int k t, .int j u].toArray
theorem PK.keeps {N i : Nat} {ys : List Value} {h h' : Heap} (K : PK N i ys h) (k : ∀ (b : Nat) o, N ≤ b → h.get? b = some o → h'.get? b = some o) : PK N i ys h' := ⟨K.len, fun j v e => by
  obtain ⟨T, k', t, u, rfl, hN, ⟨o, e, r⟩⟩ := K.each j v e
  exact ⟨T, k', t, u, rfl, hN, o, k T o hN e, r⟩⟩
theorem copyL {prog : Program} {w : World} {A : Around} {E : Value → Shared → Prop} {s : Shared} {l : Addr} {xs : List Value} {Q : Value → Shared → Prop} (hl : s.heap.IsList l xs.toArray) (hsz : xs.length ≤ sizeLine)
    (h : ∀ h' c, NewL none s.heap h' c xs → Q (.ref c) { s with heap := h' }) : wpAny (model prog w) A (call (.type "list") [.ref l]) Q E s := by
  obtain ⟨o, ho, hc, n, hd⟩ := hl
  exact call_list_seq (hsz := by simpa using hsz) l (.inl rfl) ho hc hd fun h' c' hk hD => h _ _ ⟨⟨hk, Nat.le_of_lt (ltS hD)⟩, Nat.le_refl _, c', hD⟩
/-- what law holds of its frame's base once the pairs stand -/
structure LW (p : Program) (loose : List Str) (mean : ExcName → Option Value) (mg mb : Str → Option Value) (w : World) (S : Heap) (L a c D : Nat) (vs ws ys : List Value) (ns : List Int) : Prop where
  G : GD p loose mean mg mb w S
  C₁ : CodeHd S 108 106
  C₂ : CodeHd S 93 91
  C₃ : CodeHd S 113 111
  n₁ : S.get? 106 = none
  n₂ : S.get? 91 = none
  n₃ : S.get? 111 = none
  hL : @LT.lt Nat _ 111 L
  hl : S.IsList a vs.toArray
  hi : IntsAre vs ns
  hsz : vs.length ≤ 63
  Pn : S.PlainList c ws.toArray
  hwl : ws.length ≤ 24
  hwi : ∀ v ∈ ws, ∃ i t, v = .int i t
  PD : S.PlainList D ys.toArray
  ylen : ys.length = ws.length
  each : ∀ (j : Nat) v, ys[j]? = some v → ∃ (T : Nat) (k : Int) (t u : Tok), v = .ref T ∧ IsTup S T [Value.int k t, .int j u].toArray
theorem LW.pairs {p : Program} {loose : List Str} {mean : ExcName → Option Value} {mg mb : Str → Option Value} {w : World} {S : Heap} {L a c D : Nat} {vs ws ys : List Value} {ns : List Int}
    (W : LW p loose mean mg mb w S L a c D vs ws ys ns) : ∀ v ∈ ys, PairI S v := fun v hv => by
  obtain ⟨j, hj, rfl⟩ := List.mem_iff_getElem.mp hv
  obtain ⟨T, k', t, u, ey, hT⟩ := W.each j ys[j] (List.getElem?_eq_getElem hj)
  exact ⟨T, k', j, t, u, ey, hT⟩
theorem FL.one {S h h' : Heap} {L P : Addr} {l} (F : FL S L h l) (g : Gro (some P) h h') (hPL : P ≠ L) (hP : S.get? P = none) : FL S L h' l :=
  F.gro g (fun z => hPL (Option.some.inj z)) fun a ha => by cases ha; exact hP
theorem Gro.other {h h' : Heap} {P b : Addr} {o : Obj} (g : Gro (some P) h h') (hb : P ≠ b) (e : h.get? b = some o) : h'.get? b = some o := g.stays _ _ (hideO_get e fun z => hb (Option.some.inj z))
end Mine

namespace Mine
local macro_rules | `(tactic| tb_start) => `(tactic| repeat' (first | exact List.forall_mem_nil _ | refine List.forall_mem_cons.mpr ⟨?_, ?_⟩ | exact Or.inl rfl | exact Or.inr ⟨by (dsimp only; decide), by k_mem⟩))
section
variable {prog : Program} {w : World} {p : Program} {loose : List Str} {mean : ExcName → Option Value} {mg mb : Str → Option Value}
set_option maxHeartbeats 4000000 in
theorem law_rest3 {A : Around} {s : Shared} {S : Heap} {L fa a c D : Addr} {o : Obj} {fd : FuncData} {body : List Stmt} {vs ws ys : List Value} {ns : List Int} {Q : Flow → Shared → Prop} {E : Value → Shared → Prop}
    (ho : (KK w).lookup 114 = some o) (hd : o.data = .func fd) (hb : fd.body = .stmts body)
    (R : Room A 12) (W : LW p loose mean mg mb w S L a c D vs ws ys ns)
    (hA : s.heap.get? 106 = some (tabObj #[])) (hB : s.heap.get? 91 = some (tabObj #[])) (hC : GrownAt 111 s.heap)
    (F : FL S L s.heap [(Str.ofString "pairs", .ref D), (Str.ofString "numbers", .ref c), (Str.ofString "script", .ref a)])
    (h : ∀ h' tk, Lo h' L [] → S.StaysIn h' → GrownAt 106 h' → GrownAt 91 h' → GrownAt 111 h' → Q (.ret (.bool true)) { s with heap := h', toks := tk }) :
    wpAny (model prog w) A (execs (body.drop 7) (envX (Str.ofString "law") fd.scope L fa (.ref 113) [])) Q E s := by
  have e := W.G.X 114 _ (by rfl)
  rw [W.G.X 114 o ho] at e
  cases e
  cases hd
  cases hb
  have G := W.G.keeps F.keep
  have hLL := W.hL
  have n106 : @Ne Nat 106 L := by omega
  have n91 : @Ne Nat 91 L := by omega
  have hal := isList_stays W.hl F.keep
  have hz := W.hsz
  refine wpAny_execs_cons (wpAny_If (wpAny_isTrue_BoolOp (wpAny_allTrue_Or_cons (wpAny_isTrue_Not (wpAny_isTrue_value (callG G (by rfl) (by rfl) rfl (args_cons (nmL F (args_cons (wpAny_BinOp (callB G (by rfl) boot_len (args_cons (nmL F (args_nil (lenL hal (by omega) fun t1 tk1 => wpAny_BinOp (callB G (by rfl) boot_sum (args_cons (sliceE (nmL F (partN (partS (wpAny_Constant_int ⟨a, vs, none, some 1, rfl, hal, ?_, .none, .int _ _, fun h₂ c₂ n₂ => args_nil ?_⟩))))))))))))))))))))))
  · exact Nat.le_trans (by omega : vs.length ≤ 1000) (by decide)
  have e1 := pick_upto vs 1
  have n₂' : NewL none s.heap h₂ c₂ (vs.take 1) := by
    have := n₂
    rw [show (some (1 : Int)) = some ((1 : Nat) : Int) from rfl, e1] at this
    exact this
  clear n₂
  have I1 := ints_of (vs.take 1) fun v hv => by
    obtain ⟨j, hj, rfl⟩ := List.mem_iff_getElem.mp (List.mem_of_mem_take hv)
    obtain ⟨n, t, e, _⟩ := W.hi.at j _ (List.getElem?_eq_getElem hj)
    exact ⟨n, t, e⟩
  obtain ⟨xs, ex⟩ := I1.allInts.items
  have hl₂ := n₂'.list
  rw [ex] at hl₂
  refine with_size (sum_intListG R.hh hl₂ fun h₃ tk₃ t₃ hk₃ hz₃ => wpAny_Constant_int (mod_int' (by decide) (add_int (args_nil ?_))))
  clear hz₃
  have F₃ := (F.gro₀ n₂'.toGro).grow hk₃
  have hA₃ := hk₃ _ _ (n₂'.stays _ _ hA)
  have hB₃ := hk₃ _ _ (n₂'.stays _ _ hB)
  have hC₃ : GrownAt 111 h₃ := let ⟨ps, e⟩ := hC; ⟨ps, hk₃ _ _ (n₂'.stays _ _ e)⟩
  have k₃ := stays_hideO (q := some 91) F₃.keep fun b hb => by cases hb; exact W.n₂
  refine ⟨W.G.keeps F₃.keep, any_right_spec (R.le (by decide)) (W.G.keeps k₃) (W.C₂.keeps k₃) hB₃ (isList_stays W.PD.isList k₃) (by rw [W.ylen]; exact W.hwl) (fun j v e => ?_) fun h₄ tk₄ g₄ gr₄ => wpAny_truthy_bool ?_⟩
  · obtain ⟨T, k, t, u, rfl, hT⟩ := W.each j v e
    exact ⟨T, k, t, u, rfl, isTup_stays hT k₃⟩
  rw [if_neg (by decide)]
  have F₄ := F₃.one g₄ n91 W.n₂
  have hA₄ := g₄.other (neA (by decide)) hA₃
  have hC₄ : GrownAt 111 h₄ := let ⟨ps, e⟩ := hC₃; ⟨ps, g₄.other (neA (by decide)) e⟩
  have G₄ := W.G.keeps F₄.keep
  refine wpAny_allTrue_Or_cons (wpAny_isTrue_Not (wpAny_isTrue_value (callG G₄ (by rfl) (by rfl) rfl (args_cons (nmL F₄ (args_nil ⟨G₄, texts_right_spec (R.le (by decide)) G₄ (isList_stays W.Pn.isList F₄.keep) (ints_of ws W.hwi) W.hwl fun h₅ tk₅ g₅ => wpAny_truthy_bool ?_⟩))))))
  rw [if_neg (by decide)]
  refine wpAny_allTrue_Or_nil ?_
  rw [if_neg (by decide)]
  refine wpAny_execs_nil ?_
  have F₅ := F₄.gro₀ g₅
  have hA₅ := g₅.stays _ _ hA₄
  have hB₅ : GrownAt 91 h₅ := let ⟨ps, e⟩ := gr₄; ⟨ps, g₅.stays _ _ e⟩
  have hC₅ : GrownAt 111 h₅ := let ⟨ps, e⟩ := hC₄; ⟨ps, g₅.stays _ _ e⟩
  have G₅ := W.G.keeps F₅.keep
  refine wpAny_execs_cons (wpAny_Return_some (callG G₅ (by rfl) (by rfl) rfl (args_cons (wpAny_BinOp (nmL F₅ (wpAny_List (args_cons (wpAny_Constant_int (args_cons (wpAny_Constant_int (args_cons (wpAny_Constant_int (args_nil ⟨by show 3 ≤ sizeLine; decide, ?_⟩)))))))))))))
  have k₆ : ∀ o, h₅.StaysIn (h₅.push o) := fun o => stays_push (stays_refl _) o
  refine addL (isList_stays W.Pn.isList (F₅.push _).keep) (PlainList.new h₅ _).isList (Nat.le_trans (by have := W.hwl; omega : ws.length + 3 ≤ 1000) (by decide)) fun h₇ c₇ n₇ => args_nil ?_
  have F₇ := (F₅.push _).gro₀ n₇.toGro
  have k₇ := stays_hideO (q := some 106) F₇.keep fun b hb => by cases hb; exact W.n₁
  have hA₇ := n₇.stays _ _ (k₆ _ _ _ hA₅)
  have hB₇ : GrownAt 91 h₇ := let ⟨ps, e⟩ := hB₅; ⟨ps, n₇.stays _ _ (k₆ _ _ _ e)⟩
  have hC₇ : GrownAt 111 h₇ := let ⟨ps, e⟩ := hC₅; ⟨ps, n₇.stays _ _ (k₆ _ _ _ e)⟩
  have hz₇ : @LT.lt Nat _ 106 c₇ := Nat.lt_of_lt_of_le (Nat.lt_trans (by omega : @LT.lt Nat _ 106 L) (F₅.push _).lo.lt) n₇.ge
  refine ⟨W.G.keeps F₇.keep, ends_right_spec (R.le (by decide)) (W.G.keeps k₇) (W.C₁.keeps k₇) hA₇ (isList_keeps n₇.list fun o e => hideO_get e (some_ne (Nat.ne_of_lt hz₇))) (ints_of _ fun v hv => ?_) ?_ fun h₈ tk₈ g₈ gr₈ => ?_⟩
  · rcases List.mem_append.mp hv with hv | hv
    · exact W.hwi v hv
    · simp only [List.mem_cons, List.not_mem_nil, or_false] at hv
      rcases hv with rfl | rfl | rfl <;> exact ⟨_, _, rfl⟩
  · rw [List.length_append]
    have := W.hwl
    show ws.length + 3 ≤ 30
    omega
  · have F₈ := F₇.one g₈ n106 W.n₁
    exact h h₈ _ (F₈.lo.sub fun p hp => by cases hp) F₈.keep gr₈ (let ⟨ps, e⟩ := hB₇; ⟨ps, g₈.other (neA (by decide)) e⟩) (let ⟨ps, e⟩ := hC₇; ⟨ps, g₈.other (neA (by decide)) e⟩)
end
end Mine

namespace Mine
local macro_rules | `(tactic| tb_start) => `(tactic| repeat' (first | exact List.forall_mem_nil _ | refine List.forall_mem_cons.mpr ⟨?_, ?_⟩ | exact Or.inl rfl | exact Or.inr ⟨by (dsimp only; decide), by k_mem⟩))
section
variable {prog : Program} {w : World} {p : Program} {loose : List Str} {mean : ExcName → Option Value} {mg mb : Str → Option Value}
set_option maxHeartbeats 4000000 in
theorem law_rest2b {A : Around} {s : Shared} {S : Heap} {L fa a c D l r : Addr} {o : Obj} {fd : FuncData} {body : List Stmt} {vs ws ys : List Value} {ns : List Int} {m : Nat} {cc : Value} {Q : Flow → Shared → Prop} {E : Value → Shared → Prop}
    (ho : (KK w).lookup 114 = some o) (hd : o.data = .func fd) (hb : fd.body = .stmts body)
    (R : Room A 12) (W : LW p loose mean mg mb w S L a c D vs ws ys ns)
    (hA : s.heap.get? 106 = some (tabObj #[])) (hB : s.heap.get? 91 = some (tabObj #[])) (hC : s.heap.get? 111 = some (tabObj (#[] ++ #[rawInt 94, rawInt 25, cc])))
    (F : FL S L s.heap [(Str.ofString "right", .ref r), (Str.ofString "left", .ref l), (Str.ofString "pairs", .ref D), (Str.ofString "numbers", .ref c), (Str.ofString "script", .ref a)])
    (Pl : s.heap.PlainList l (plainL (leP S) (ys.take m)).toArray) (Pr : s.heap.PlainList r (plainL (leP S) (ys.drop m)).toArray)
    (hl : @LT.lt Nat _ 111 l) (hr : @LT.lt Nat _ 111 r)
    (h : ∀ h' tk, Lo h' L [] → S.StaysIn h' → GrownAt 106 h' → GrownAt 91 h' → GrownAt 111 h' → Q (.ret (.bool true)) { s with heap := h', toks := tk }) :
    wpAny (model prog w) A (execs (body.drop 6) (envX (Str.ofString "law") fd.scope L fa (.ref 113) [])) Q E s := by
  have e := W.G.X 114 _ (by rfl)
  rw [W.G.X 114 o ho] at e
  have e' := ho
  cases e
  cases hd
  cases hb
  have G := W.G.keeps F.keep
  have hLL := W.hL
  have n111 : @Ne Nat 111 L := by omega
  have hP : ∀ v ∈ ys, PairI S v := W.pairs
  have yl : ys.length ≤ 24 := by rw [W.ylen]; exact W.hwl
  have tl : (plainL (leP S) (ys.take m)).length + (plainL (leP S) (ys.drop m)).length = ys.length := by
    rw [(plainL_perm (leP S) (ys.take m)).length_eq, (plainL_perm (leP S) (ys.drop m)).length_eq, ← List.length_append, List.take_append_drop]
  refine wpAny_execs_cons (wpAny_If (wpAny_isTrue_Compare1 (callG G (by rfl) (by rfl) rfl (args_cons (nmL F (args_cons (nmL F (args_cons (kla_eval rfl (lamL (clos := []) F W.G W.C₃ hC W.n₃ (by trivial) rfl (by rfl) fun f c' ctv h₂ tk₂ F₂ g₂ hf hfo hrec hC₂ => args_nil ⟨W.G.keeps F₂.keep, ?_⟩)))))))))) 
  clear hf
  have G₂ := W.G.keeps F₂.keep
  have B : Beh prog w h₂ none (fun _ _ => True) f (fun v u => decide ((dat S u).1 < (dat S v).1)) (PairI S) 1 :=
    { fn := ⟨_, _, hfo, rfl⟩
      stable := fun _ _ _ _ _ => trivial
      tells := fun A₅ s₅ x y n Q₅ E₅ R₅ hS₅ hx hy _ _ hq => by
        obtain ⟨u₁, _, ex, _⟩ := hx.dat
        obtain ⟨u₂, _, ey, _⟩ := hy.dat
        have ix := hx.item 0 (by decide)
        have iy := hy.item 0 (by decide)
        rw [ex] at ix
        rw [ey] at iy
        have G₅ := G₂.keeps hS₅
        refine callLam (binds := [(Str.ofString "one", x), (Str.ofString "other", y)]) R₅ (hS₅ _ _ hfo) rfl G₅.T.nolimit (codeRec_keep hrec fun c oc vs e _ => hS₅ _ _ e) rfl (by rfl) (noCells (by rfl)) (locs rfl) (of_decide_eq_true rfl) (fun h₆ A₆ E₆ R₆ F₆ => ?_) rfl rfl rfl
        show wpAny _ _ (eval _ (envX _ _ s₅.heap.objs.size f (.ref c') [])) _ _ _
        have hsz₆ : @LT.lt Nat _ s₅.heap.objs.size h₆.objs.size := F₆.lo.lt
        have hst := stays_trans F₂.keep (stays_trans hS₅ F₆.keep)
        exact wpAny_Compare1 (Subscript_ (nmL F₆ (wpAny_Constant_int (itemN ix hst rfl (by decide) (Subscript_ (nmL F₆ (wpAny_Constant_int (itemN iy hst rfl (by decide) (gt_int (hq h₆ _ ⟨F₆.keep, Nat.le_of_lt hsz₆⟩ trivial)))))))))) }
  have Pl₂ := PlainList.gro Pl g₂ (some_ne (Nat.ne_of_lt hl))
  have Pr₂ := PlainList.gro Pr g₂ (some_ne (Nat.ne_of_lt hr))
  have hA₂ := g₂.other (neA (by decide)) hA
  have hB₂ := g₂.other (neA (by decide)) hB
  refine merged_spec (q := none) (J := fun _ _ => True) (b := fun v u => decide ((dat S u).1 < (dat S v).1)) (dom := PairI S) (d := 1) (n := 0) (xs := plainL (leP S) (ys.take m)) (ys := plainL (leP S) (ys.drop m)) (R.le (by decide)) G₂ nofun B Pl₂.isList Pr₂.isList (fun v hv => hP v (List.mem_of_mem_take ((plainL_perm _ _).mem_iff.mp hv))) (fun v hv => hP v (List.mem_of_mem_drop ((plainL_perm _ _).mem_iff.mp hv))) (by omega) (by omega) trivial fun h₃ tk₃ c₃ k₃ n₃ _ _ => ?_
  have em : mrg (fun v u => decide ((dat S u).1 < (dat S v).1)) (plainL (leP S) (ys.take m)) (plainL (leP S) (ys.drop m)) = plainL (leP S) ys := by
    rw [← not_le_gt (fun v => (dat S v).1)]
    have := mrg_plain (pre_int (fun v => (dat S v).1)) (ys.take m) (ys.drop m)
    rw [List.take_append_drop] at this
    exact this
  rw [em] at n₃
  clear B em tl
  have F₃ := F₂.gro₀ n₃.toGro
  have G₃ := W.G.keeps F₃.keep
  refine callG G₃ (by rfl) (by rfl) rfl (args_cons (nmL F₃ (args_nil ⟨G₃, plain_pairs (H := S) (R.le (by decide)) G₃ (isList_stays W.PD.isList F₃.keep) (by omega) F₃.keep hP fun h₄ tk₄ c₄ n₄ => ?_⟩)))
  have F₄ := F₃.gro₀ n₄.toGro
  have hpl : ∀ v ∈ plainL (leP S) ys, ∃ as, Reads h₄ v (kqdP (pairD S v)) as := fun v hv => pairD_reads F₄.keep (hP v ((plainL_perm _ _).mem_iff.mp hv))
  refine ne_lists (D := pairD S) (D' := pairD S) (isList_stays n₃.list n₄.stays) n₄.list hpl hpl (fun v _ => pairD_ok S v) rfl (by have := R.un; omega) (wpAny_truthy_bool ?_)
  rw [if_neg (by decide)]
  refine wpAny_execs_nil ?_
  have hA₄ := n₄.stays _ _ (n₃.stays _ _ hA₂)
  have hB₄ := n₄.stays _ _ (n₃.stays _ _ hB₂)
  have hC₄ : GrownAt 111 h₄ := ⟨_, n₄.stays _ _ (n₃.stays _ _ hC₂)⟩
  exact law_rest3 e' rfl rfl R W hA₄ hB₄ hC₄ (F₄.sub fun p hp => .tail _ (.tail _ hp)) h
end
end Mine

namespace Mine
local macro_rules | `(tactic| tb_start) => `(tactic| repeat' (first | exact List.forall_mem_nil _ | refine List.forall_mem_cons.mpr ⟨?_, ?_⟩ | exact Or.inl rfl | exact Or.inr ⟨by (dsimp only; decide), by k_mem⟩))
theorem half_int (n : Nat) : ((n : Int)).fdiv 2 = ((n / 2 : Nat) : Int) := by
  rw [Int.fdiv_eq_ediv_of_nonneg _ (by decide)]; omega
section
variable {prog : Program} {w : World} {A : Around} {E : Value → Shared → Prop} {s : Shared}
theorem unpackN {t : Addr} {xs : List Value} {n : Nat} {Q : List Value → Shared → Prop} (hh : A.handled = none) (ht : IsTup s.heap t xs.toArray) (hn : n = xs.length)
    (hQ : ∀ h', Heap.ExtBut s.heap.objs.size s.heap h' → Q xs { s with heap := h' }) : wpAny (model prog w) A (unpackItems (.ref t) n none) Q E s := by
  subst hn
  have := unpackItems_tuple (prog := prog) (w := w) (E := E) (Q := Q) hh ht (by simpa using hQ)
  simpa using this
end
section
variable {prog : Program} {w : World} {p : Program} {loose : List Str} {mean : ExcName → Option Value} {mg mb : Str → Option Value}
set_option maxHeartbeats 4000000 in
theorem law_rest2a {A : Around} {s : Shared} {S : Heap} {L fa a c D : Addr} {o : Obj} {fd : FuncData} {body : List Stmt} {vs ws ys : List Value} {ns : List Int} {cc : Value} {Q : Flow → Shared → Prop} {E : Value → Shared → Prop}
    (ho : (KK w).lookup 114 = some o) (hd : o.data = .func fd) (hb : fd.body = .stmts body)
    (R : Room A 12) (W : LW p loose mean mg mb w S L a c D vs ws ys ns)
    (hA : s.heap.get? 106 = some (tabObj #[])) (hB : s.heap.get? 91 = some (tabObj #[])) (hC : s.heap.get? 111 = some (tabObj (#[] ++ #[rawInt 94, rawInt 25, cc])))
    (F : FL S L s.heap [(Str.ofString "pairs", .ref D), (Str.ofString "numbers", .ref c), (Str.ofString "script", .ref a)])
    (h : ∀ h' tk, Lo h' L [] → S.StaysIn h' → GrownAt 106 h' → GrownAt 91 h' → GrownAt 111 h' → Q (.ret (.bool true)) { s with heap := h', toks := tk }) :
    wpAny (model prog w) A (execs (body.drop 4) (envX (Str.ofString "law") fd.scope L fa (.ref 113) [])) Q E s := by
  have e := W.G.X 114 _ (by rfl)
  rw [W.G.X 114 o ho] at e
  have e' := ho
  cases e
  cases hd
  cases hb
  have G := W.G.keeps F.keep
  have hLL := W.hL
  have hP : ∀ v ∈ ys, PairI S v := W.pairs
  have yl : ys.length ≤ 24 := by rw [W.ylen]; exact W.hwl
  have szy : ys.length ≤ sizeLine := Nat.le_trans (by omega : ys.length ≤ 1000) (by decide)
  refine wpAny_execs_cons (wpAny_Assign_Name (wpAny_BinOp (callB G (by rfl) boot_len (args_cons (nmL F (args_nil (lenL (isList_stays W.PD.isList F.keep) (by omega) fun t1 tk1 => wpAny_Constant_int (floordiv_int (by decide) ?_ (Or.inl (PyProof.noPylong_small (by omega)))))))))))
  rw [half_int]
  refine stL (l' := [(Str.ofString "middle", .int (ys.length / 2 : Nat) _), (Str.ofString "pairs", .ref D), (Str.ofString "numbers", .ref c), (Str.ofString "script", .ref a)]) F (fun h₂ F₂ s₂ => ?_)
  have hL₀ : @LT.lt Nat _ L s.heap.objs.size := F.lo.lt
  have hA₂ := (s₂.2 106 (neA (by omega))).trans hA
  have hB₂ := (s₂.2 91 (neA (by omega))).trans hB
  have hC₂ := (s₂.2 111 (neA (by omega))).trans hC
  clear s₂ hA hB hC
  generalize hm : ys.length / 2 = m at F₂
  have hm' : m ≤ ys.length := by omega
  have hL₂ : @LT.lt Nat _ L h₂.objs.size := F₂.lo.lt
  refine wpAny_execs_cons (Assign_Tuple_swapped (names := [Str.ofString "left", Str.ofString "right"]) (wpAny_Tuple (args_cons (callG (W.G.keeps F₂.keep) (by rfl) (by rfl) rfl (args_cons (sliceE (nmL F₂ (partN (partS (nmL F₂ ⟨D, ys, none, some (m : Int), rfl, isList_stays W.PD.isList F₂.keep, szy, .none, .int _ _, fun h₃ c₃ n₃ => args_nil ?_⟩))))))))))
  have n₃' : NewL none h₂ h₃ c₃ (ys.take m) := by
    rw [pick_upto ys m] at n₃
    exact n₃
  clear n₃
  have F₃ := F₂.gro₀ n₃'.toGro
  have G₃ := W.G.keeps F₃.keep
  refine ⟨G₃, plain_pairs (H := S) (R.le (by decide)) G₃ n₃'.list (by rw [List.length_take]; omega) F₃.keep (fun v hv => hP v (List.mem_of_mem_take hv)) fun h₄ tk₄ l n₄ => ?_⟩
  have F₄ := F₃.gro₀ n₄.toGro
  refine args_cons (callG (W.G.keeps F₄.keep) (by rfl) (by rfl) rfl (args_cons (sliceE (nmL F₄ (partS (nmL F₄ (partN ⟨D, ys, some (m : Int), none, rfl, isList_stays W.PD.isList F₄.keep, szy, .int _ _, .none, fun h₅ c₅ n₅ => args_nil ?_⟩)))))))
  have n₅' : NewL none h₄ h₅ c₅ (ys.drop m) := by
    rw [slicePick_from ys.toArray m (by simpa using hm')] at n₅
    exact n₅
  clear n₅
  have F₅ := F₄.gro₀ n₅'.toGro
  have G₅ := W.G.keeps F₅.keep
  refine ⟨G₅, plain_pairs (H := S) (R.le (by decide)) G₅ n₅'.list (by rw [List.length_drop]; omega) F₅.keep (fun v hv => hP v (List.mem_of_mem_drop hv)) fun h₆ tk₆ r n₆ => ?_⟩
  have F₆ := F₅.gro₀ n₆.toGro
  refine args_nil ⟨by show 2 ≤ sizeLine; decide, ?_⟩
  have hl2 : @LE.le Nat _ h₂.objs.size l := Nat.le_trans n₃'.size n₄.ge
  have hr2 : @LE.le Nat _ h₂.objs.size r := Nat.le_trans (n₃'.toGro.trans (n₄.toGro.trans n₅'.toGro)).size n₆.ge
  have g : Gro none h₂ h₆ := n₃'.toGro.trans (n₄.toGro.trans (n₅'.toGro.trans n₆.toGro))
  have Pl₆ := PlainList.gro n₄.lst (n₅'.toGro.trans n₆.toGro) nofun
  have Pr₆ := n₆.lst
  have hA₆ := g.stays _ _ hA₂
  have hB₆ := g.stays _ _ hB₂
  have hC₆ := g.stays _ _ hC₂
  clear n₃' n₄ n₅' n₆ g F₂ F₃ F₄ F₅ G₃ G₅ hA₂ hB₂ hC₂
  refine unpackN (xs := [.ref l, .ref r]) R.hh (IsTup.new _ _) rfl fun h₇ he₇ => ?_
  have hk₇ : h₆.StaysIn h₇ := fun b o e => he₇ b o (Nat.ne_of_lt (Heap.lt_size (Heap.get?_push_of_some _ e))) (Heap.get?_push_of_some _ e)
  have F₇ := F₆.grow hk₇
  have Pl₇ := plain_keeps Pl₆ fun o e => hk₇ _ _ e
  have Pr₇ := plain_keeps Pr₆ fun o e => hk₇ _ _ e
  have hA₇ := hk₇ _ _ hA₆
  have hB₇ := hk₇ _ _ hB₆
  have hC₇ := hk₇ _ _ hC₆
  clear he₇ hk₇ F₆ Pl₆ Pr₆ hA₆ hB₆ hC₆
  refine assignInOrder_cons (wpAny_bindName (stL (l' := [(Str.ofString "right", .ref r), (Str.ofString "pairs", .ref D), (Str.ofString "numbers", .ref c), (Str.ofString "script", .ref a)]) F₇ (fun h₈ F₈ s₈ => ?_)))
  refine assignInOrder_cons (wpAny_bindName (stL (l' := [(Str.ofString "right", .ref r), (Str.ofString "left", .ref l), (Str.ofString "pairs", .ref D), (Str.ofString "numbers", .ref c), (Str.ofString "script", .ref a)]) F₈ (fun h₉ F₉ s₉ => assignInOrder_nil ?_)))
  have tab₉ : ∀ (b : Nat) o, b ≠ L → h₇.get? b = some o → h₉.get? b = some o := fun b o hb e => (s₉.2 b (neA hb)).trans ((s₈.2 b (neA hb)).trans e)
  have Pl₉ := plain_keeps (h' := h₉) Pl₇ fun o e => tab₉ _ o (by omega) e
  have Pr₉ := plain_keeps (h' := h₉) Pr₇ fun o e => tab₉ _ o (by omega) e
  exact law_rest2b e' rfl rfl R W (tab₉ _ _ (by omega) hA₇) (tab₉ _ _ (by omega) hB₇) (tab₉ _ _ (by omega) hC₇) F₉ Pl₉ Pr₉ (by omega) (by omega) h
end
end Mine

namespace Mine
local macro_rules | `(tactic| tb_start) => `(tactic| repeat' (first | exact List.forall_mem_nil _ | refine List.forall_mem_cons.mpr ⟨?_, ?_⟩ | exact Or.inl rfl | exact Or.inr ⟨by (dsimp only; decide), by k_mem⟩))
section
variable {prog : Program} {w : World} {p : Program} {loose : List Str} {mean : ExcName → Option Value} {mg mb : Str → Option Value}
set_option maxHeartbeats 4000000 in
theorem law_rest1 {A : Around} {s : Shared} {S : Heap} {L fa a c D : Addr} {o : Obj} {fd : FuncData} {body : List Stmt} {vs ws ys : List Value} {ns : List Int} {Q : Flow → Shared → Prop} {E : Value → Shared → Prop}
    (ho : (KK w).lookup 114 = some o) (hd : o.data = .func fd) (hb : fd.body = .stmts body)
    (R : Room A 12) (W : LW p loose mean mg mb w S L a c D vs ws ys ns)
    (hA : s.heap.get? 106 = some (tabObj #[])) (hB : s.heap.get? 91 = some (tabObj #[])) (hC : s.heap.get? 111 = some (tabObj #[]))
    (F : FL S L s.heap [(Str.ofString "pairs", .ref D), (Str.ofString "numbers", .ref c), (Str.ofString "script", .ref a)])
    (h : ∀ h' tk, Lo h' L [] → S.StaysIn h' → GrownAt 106 h' → GrownAt 91 h' → GrownAt 111 h' → Q (.ret (.bool true)) { s with heap := h', toks := tk }) :
    wpAny (model prog w) A (execs (body.drop 2) (envX (Str.ofString "law") fd.scope L fa (.ref 113) [])) Q E s := by
  have e := W.G.X 114 _ (by rfl)
  rw [W.G.X 114 o ho] at e
  have e' := ho
  cases e
  cases hd
  cases hb
  have hLL := W.hL
  have hP : ∀ v ∈ ys, PairI S v := W.pairs
  have yl : ys.length ≤ 24 := by rw [W.ylen]; exact W.hwl
  have szy : ys.length ≤ sizeLine := Nat.le_trans (by omega : ys.length ≤ 1000) (by decide)
  refine wpAny_execs_cons (wpAny_Assign_Name (callTy (W.G.keeps F.keep) (by rfl) boot_list (args_cons (nmL F (args_nil (copyL (isList_stays W.PD.isList F.keep) szy fun h₆ c₆ n₆ => ?_))))))
  have hz6 : @LE.le Nat _ s.heap.objs.size c₆ := n₆.ge
  have hL5 : @LT.lt Nat _ L s.heap.objs.size := F.lo.lt
  refine stL (l' := [(Str.ofString "kept", .ref c₆), (Str.ofString "pairs", .ref D), (Str.ofString "numbers", .ref c), (Str.ofString "script", .ref a)]) (F.gro₀ n₆.toGro) (fun h₇ F₇ s₇ => ?_)
  have Pk₇ := PlainList.but n₆.lst s₇ (neA (by omega))
  have hA₇ := (s₇.2 106 (neA (by omega))).trans (n₆.stays _ _ hA)
  have hB₇ := (s₇.2 91 (neA (by omega))).trans (n₆.stays _ _ hB)
  have hC₇ := (s₇.2 111 (neA (by omega))).trans (n₆.stays _ _ hC)
  clear n₆ s₇ hA hB hC
  have hk6 : (some 111 : Option Addr) ≠ some c₆ := some_ne (by omega)
  refine wpAny_execs_cons (wpAny_If (wpAny_isTrue_BoolOp (wpAny_allTrue_Or_cons (wpAny_isTrue_Compare1 (callG (W.G.keeps F₇.keep) (by rfl) (by rfl) rfl (args_cons (nmL F₇ (args_cons (kla_eval rfl (lamL (clos := []) F₇ W.G W.C₃ hC₇ W.n₃ (by trivial) rfl (by rfl) fun f c' ctv h₈ tk₈ F₈ g₈ hf hfo hrec hC₈ => args_nil ⟨W.G.keeps F₈.keep, ?_⟩))))))))))
  clear hf
  have G₈ := W.G.keeps F₈.keep
  have B : Beh prog w h₈ none (fun _ _ => True) f (fun v u => decide ((dat S u).1 < (dat S v).1)) (PairI S) 1 :=
    { fn := ⟨_, _, hfo, rfl⟩
      stable := fun _ _ _ _ _ => trivial
      tells := fun A₅ s₅ x y n Q₅ E₅ R₅ hS₅ hx hy _ _ hq => by
        obtain ⟨u₁, _, ex, _⟩ := hx.dat
        obtain ⟨u₂, _, ey, _⟩ := hy.dat
        have ix := hx.item 0 (by decide)
        have iy := hy.item 0 (by decide)
        rw [ex] at ix
        rw [ey] at iy
        have G₅ := G₈.keeps hS₅
        refine callLam (binds := [(Str.ofString "one", x), (Str.ofString "other", y)]) R₅ (hS₅ _ _ hfo) rfl G₅.T.nolimit (codeRec_keep hrec fun c oc vs e _ => hS₅ _ _ e) rfl (by rfl) (noCells (by rfl)) (locs rfl) (of_decide_eq_true rfl) (fun h₆ A₆ E₆ R₆ F₆ => ?_) rfl rfl rfl
        show wpAny _ _ (eval _ (envX _ _ s₅.heap.objs.size f (.ref c') [])) _ _ _
        have hsz₆ : @LT.lt Nat _ s₅.heap.objs.size h₆.objs.size := F₆.lo.lt
        have hst := stays_trans F₈.keep (stays_trans hS₅ F₆.keep)
        exact wpAny_Compare1 (Subscript_ (nmL F₆ (wpAny_Constant_int (itemN ix hst rfl (by decide) (Subscript_ (nmL F₆ (wpAny_Constant_int (itemN iy hst rfl (by decide) (gt_int (hq h₆ _ ⟨F₆.keep, Nat.le_of_lt hsz₆⟩ trivial)))))))))) }
  have Pk₈ := PlainList.gro Pk₇ g₈ hk6
  have hA₈ := g₈.other (neA (by decide)) hA₇
  have hB₈ := g₈.other (neA (by decide)) hB₇
  refine sort_spec (q := none) (J := fun _ _ => True) (b := fun v u => decide ((dat S u).1 < (dat S v).1)) (dom := PairI S) (d := 1) (n := 0) (vs := ys) (R.le (by decide)) G₈ nofun B (isList_stays W.PD.isList F₈.keep) hP (by omega) (by decide) trivial fun h₉ tk₉ c₉ k n₉ _ _ => ?_
  rw [msort_int (fun v => (dat S v).1)] at n₉
  clear B
  have n₉' : NewL none h₈ h₉ c₉ (plainL (leP S) ys) := n₉
  clear n₉
  have F₉ := F₈.gro₀ n₉'.toGro
  have G₉ := W.G.keeps F₉.keep
  refine callG G₉ (by rfl) (by rfl) rfl (args_cons (nmL F₉ (args_nil ⟨G₉, plain_pairs (H := S) (R.le (by decide)) G₉ (isList_stays W.PD.isList F₉.keep) (by omega) F₉.keep hP fun h₁₀ tk₁₀ c₁₀ n₁₀ => ?_⟩)))
  have F₁₀ := F₉.gro₀ n₁₀.toGro
  have hpl : ∀ v ∈ plainL (leP S) ys, ∃ as, Reads h₁₀ v (kqdP (pairD S v)) as := fun v hv => pairD_reads F₁₀.keep (hP v ((plainL_perm _ _).mem_iff.mp hv))
  have hpy : ∀ v ∈ ys, ∃ as, Reads h₁₀ v (kqdP (pairD S v)) as := fun v hv => pairD_reads F₁₀.keep (hP v hv)
  refine ne_lists (D := pairD S) (D' := pairD S) (isList_stays n₉'.list n₁₀.stays) n₁₀.list hpl hpl (fun v _ => pairD_ok S v) rfl (by have := R.un; omega) (wpAny_truthy_bool ?_)
  rw [if_neg (by decide)]
  have Pk₁₀ := PlainList.gro Pk₈ (n₉'.toGro.trans n₁₀.toGro) nofun
  refine wpAny_allTrue_Or_cons (wpAny_isTrue_Compare1 (nmL F₁₀ (nmL F₁₀ (ne_lists (D := pairD S) (D' := pairD S) (isList_stays W.PD.isList F₁₀.keep) Pk₁₀.isList hpy hpy (fun v _ => pairD_ok S v) rfl (by have := R.un; omega) (wpAny_truthy_bool ?_)))))
  rw [if_neg (by decide)]
  refine wpAny_allTrue_Or_nil ?_
  rw [if_neg (by decide)]
  refine wpAny_execs_nil ?_
  have g : Gro none h₈ h₁₀ := n₉'.toGro.trans n₁₀.toGro
  exact law_rest2a e' rfl rfl R W (g.stays _ _ hA₈) (g.stays _ _ hB₈) (g.stays _ _ hC₈) (F₁₀.sub fun p hp => .tail _ hp) h
end
end Mine

namespace Mine
local macro_rules | `(tactic| tb_start) => `(tactic| repeat' (first | exact List.forall_mem_nil _ | refine List.forall_mem_cons.mpr ⟨?_, ?_⟩ | exact Or.inl rfl | exact Or.inr ⟨by (dsimp only; decide), by k_mem⟩))
section
variable {prog : Program} {w : World} {p : Program} {loose : List Str} {mean : ExcName → Option Value} {mg mb : Str → Option Value}
set_option maxHeartbeats 4000000 in
theorem law_body {A : Around} {s : Shared} {S : Heap} {L fa a : Addr} {o : Obj} {fd : FuncData} {body : List Stmt} {vs : List Value} {ns : List Int} {Q : Flow → Shared → Prop} {E : Value → Shared → Prop}
    (ho : (KK w).lookup 114 = some o) (hd : o.data = .func fd) (hb : fd.body = .stmts body)
    (R : Room A 12) (G : GD p loose mean mg mb w S) (C₁ : CodeHd S 108 106) (C₂ : CodeHd S 93 91) (C₃ : CodeHd S 113 111)
    (hP₁ : s.heap.get? 106 = some (tabObj #[])) (hP₂ : s.heap.get? 91 = some (tabObj #[])) (hP₃ : s.heap.get? 111 = some (tabObj #[]))
    (h1 : S.get? 106 = none) (h2 : S.get? 91 = none) (h3 : S.get? 111 = none) (hL : @LT.lt Nat _ 111 L)
    (F : FL S L s.heap [(Str.ofString "script", .ref a)]) (hl : S.IsList a vs.toArray) (hi : IntsAre vs ns) (hsz : vs.length ≤ 63)
    (h : ∀ h' tk, Lo h' L [] → S.StaysIn h' → GrownAt 106 h' → GrownAt 91 h' → GrownAt 111 h' → Q (.ret (.bool true)) { s with heap := h', toks := tk }) :
    wpAny (model prog w) A (execs body (envX (Str.ofString "law") fd.scope L fa (.ref 113) [])) Q E s := by
  have e := G.X 114 _ (by rfl)
  rw [G.X 114 o ho] at e
  have e' := ho
  cases e
  cases hd
  cases hb
  have hal := isList_stays hl F.keep
  refine wpAny_execs_cons (wpAny_Assign_Name (sliceE (nmL F (partN (partS (wpAny_Constant_int ⟨a, vs, none, some 24, rfl, hal, ?_, .none, .int _ _, fun h₂ c₂ n₂ => ?_⟩))))))
  · exact Nat.le_trans (by omega : vs.length ≤ 1000) (by decide)
  have e24 := pick_upto vs 24
  have n₂' : NewL none s.heap h₂ c₂ (vs.take 24) := by
    have := n₂
    rw [show (some (24 : Int)) = some ((24 : Nat) : Int) from rfl, e24] at this
    exact this
  clear n₂
  have hL0 : @LT.lt Nat _ L s.heap.objs.size := F.lo.lt
  have hge₂ : @LE.le Nat _ s.heap.objs.size c₂ := n₂'.ge
  refine stL (l' := [(Str.ofString "numbers", .ref c₂), (Str.ofString "script", .ref a)]) (F.gro₀ n₂'.toGro) (fun h₃ F₃ s₃ => ?_)
  have P₃ := PlainList.but n₂'.lst s₃ (neA (by omega))
  have tab₃ : ∀ (P : Nat) o, P ≠ L → s.heap.get? P = some o → h₃.get? P = some o := fun P o hP e => (s₃.2 P (neA hP)).trans (n₂'.stays _ _ e)
  have hA₃ := tab₃ _ _ (by omega) hP₁
  have hB₃ := tab₃ _ _ (by omega) hP₂
  have hC₃ := tab₃ _ _ (by omega) hP₃
  clear tab₃ s₃ n₂' hP₁ hP₂ hP₃ hal
  have hwi : ∀ (j : Nat) v, (vs.take 24)[j]? = some v → ∃ i t, v = .int i t := fun j v e => by
    rw [List.getElem?_take] at e
    split at e
    · obtain ⟨n, t, e, _⟩ := hi.at j v e
      exact ⟨n, t, e⟩
    · cases e
  have hwl : (vs.take 24).length ≤ 24 := by rw [List.length_take]; omega
  generalize hws : vs.take 24 = ws at P₃ hwi hwl
  have hsc := F₃.lo.lt
  have hcl : @LT.lt Nat _ c₂ h₃.objs.size := plain_lt P₃
  refine wpAny_execs_cons (lcA (env := envX (Str.ofString "law") _ L fa (.ref 113) []) (cl := []) (S := S) (L := L) (l := [(Str.ofString "numbers", .ref c₂), (Str.ofString "script", .ref a)]) (by rfl) (by rfl) (by decide) (by rfl) (by decide)
    (callTy (G.keeps F₃.keep) (by rfl) boot_enumerate (args_cons (nmL F₃ (args_nil (call_enumerate_list P₃.isList fun h₄ he hit hsz₄ hk₄ => ?_))))) (hy := ?_))
  · have hsz₄' : h₄.objs.size = h₃.objs.size + 2 := hsz₄
    clear hsz₄
    have W := (WalksT.enumerate (prog := prog) (w := w) R.hh (h₃.objs.size + 1) h₃.objs.size c₂ (neA (by omega)) (neA (by omega)) (neA (by omega)) ws.toArray).toU
    refine W.self 0 _ _ _ ⟨⟨_, he⟩, hit, isList_stays P₃.isList hk₄⟩ ⟨h₃.objs.size + 1, _, _, _, _, _, PK, h₃, rfl, ⟨fun C => Src.pair W R.hh (by rfl) (by rfl) (by rfl) (by decide) (fun i vals ⟨t, x, _, e⟩ => ⟨_, _, e⟩), ?_, ⟨⟨_, he⟩, hit, isList_stays P₃.isList hk₄⟩, ?_, hk₄, ?_, ?_, ?_, ?_, ?_⟩, F₃, ?_⟩
    · rw [List.size_toArray]; exact Nat.le_trans hwl (by decide)
    · intro b hb
      simp only [List.mem_cons, List.not_mem_nil, or_false] at hb
      dsimp only
      omega
    · dsimp only; omega
    · intro b hb
      simp only [List.mem_cons, List.not_mem_nil, or_false] at hb
      exact Heap.get?_none_of_le (by rcases hb with rfl | rfl <;> omega)
    · exact fun N h => ⟨rfl, fun j v e => by cases e⟩
    · exact fun N i ys h h' K k => K.keeps k
    · rintro N C i ys bs s₅ E₅ hi₅ ⟨a', b', ⟨t, x, hx, e⟩, rfl⟩ hN hN' F₅ K₅
      obtain ⟨ea, eb⟩ : a' = .int i t ∧ b' = x := by
        have := congrArg Array.toList e
        simpa using this
      subst ea eb
      obtain ⟨m, um, rfl⟩ := hwi i b' (by simpa using hx)
      refine tests_nil ?_
      rw [if_pos rfl]
      refine wpAny_Tuple (args_cons (wpAny_BinOp (nmL F₅ (wpAny_Constant_int (mod_int' (by decide) (args_cons (nmL F₅ (args_nil ⟨by show 2 ≤ sizeLine; decide, _, _, rfl, stays_push (stays_refl _) _, ?_, fun j v e => ?_⟩))))))))
      · simp [K₅.len]
      · rcases get_snoc e with e | ⟨rfl, rfl⟩
        · obtain ⟨T, k', t, u, rfl, hN, hT⟩ := K₅.each j v e
          exact ⟨T, k', t, u, rfl, hN, isTup_stays hT (stays_push (stays_refl _) _)⟩
        · rw [K₅.len]
          exact ⟨_, _, _, _, rfl, hN', IsTup.new _ _⟩
    · rintro D h₅ tk₅ ys N keep₅ hz₅ hD P₅ K₅ hN F₅
      have hN₃ : @LE.le Nat _ h₃.objs.size N := by have hN' : @LE.le Nat _ h₄.objs.size N := hN; omega
      have hD₃ : @LE.le Nat _ h₃.objs.size D := hD
      clear hN hD hz₅ he hit hk₄
      have hA₅ := keep₅ _ _ (neA (by omega)) hA₃
      have hB₅ := keep₅ _ _ (neA (by omega)) hB₃
      have hC₅ := keep₅ _ _ (neA (by omega)) hC₃
      have Pn₅ : h₅.PlainList c₂ ws.toArray := plain_keeps P₃ fun o e => keep₅ _ o (neA (by omega)) e
      clear keep₅
      rw [List.size_toArray] at K₅
      obtain ⟨F₆, hS₁⟩ := F₅.base [L, 106, 91, 111] (List.mem_cons_self ..) (fun p hp hpL => by
        simp only [List.mem_cons, List.not_mem_nil, or_false] at hp
        rcases hp with rfl | rfl | rfl | rfl
        · exact absurd rfl hpL
        · exact h1
        · exact h2
        · exact h3)
      have n1 := hid_none [L, 106, 91, 111] h₅ 106 (by simp)
      have n2 := hid_none [L, 106, 91, 111] h₅ 91 (by simp)
      have n3 := hid_none [L, 106, 91, 111] h₅ 111 (by simp)
      have up : ∀ (b : Nat) o, b ≠ L → 111 < b → h₅.get? b = some o → (hid h₅ [L, 106, 91, 111]).get? b = some o := fun b o hb hb' e => hid_get _ e (by simp only [List.mem_cons, List.not_mem_nil, or_false]; omega)
      have PD₁ : (hid h₅ [L, 106, 91, 111]).PlainList D ys.toArray := plain_keeps P₅ fun o e => up _ o (by omega) (by omega) e
      have Pn₁ : (hid h₅ [L, 106, 91, 111]).PlainList c₂ ws.toArray := plain_keeps Pn₅ fun o e => up _ o (by omega) (by omega) e
      have K₁ : PK N ws.length ys (hid h₅ [L, 106, 91, 111]) := ⟨K₅.len, fun j v e => by
        obtain ⟨T, k', t, u, rfl, hN, ⟨o, e, r⟩⟩ := K₅.each j v e
        exact ⟨T, k', t, u, rfl, hN, o, up T o (by omega) (by omega) e, r⟩⟩
      generalize hS₂ : hid h₅ [L, 106, 91, 111] = S₁ at F₆ hS₁ n1 n2 n3 PD₁ Pn₁ K₁
      clear up hS₂ K₅ P₅ Pn₅ P₃ F₅ F₃ W hA₃ hB₃ hC₃
      have G₁ := G.keeps hS₁
      have D₁ := C₁.keeps hS₁
      have D₂ := C₂.keeps hS₁
      have D₃ := C₃.keeps hS₁
      have hl₁ := isList_stays hl hS₁
      have W₁ : LW p loose mean mg mb w S₁ L a c₂ D vs ws ys ns :=
        { G := G₁, C₁ := D₁, C₂ := D₂, C₃ := D₃, n₁ := n1, n₂ := n2, n₃ := n3, hL := hL, hl := hl₁, hi := hi, hsz := hsz, Pn := Pn₁, hwl := hwl
          hwi := fun v hv => by
            obtain ⟨j, hj, rfl⟩ := List.mem_iff_getElem.mp hv
            exact hwi j _ (List.getElem?_eq_getElem hj)
          PD := PD₁, ylen := K₁.len
          each := fun j v e => let ⟨T, k', t, u, ey, _, hT⟩ := K₁.each j v e; ⟨T, k', t, u, ey, hT⟩ }
      exact law_rest1 e' rfl rfl R W₁ hA₅ hB₅ hC₅ F₆ fun h' tk lo k g1 g2 g3 => h h' tk lo (stays_trans hS₁ k) g1 g2 g3
  · intro q hq
    simp only [List.mem_cons, List.not_mem_nil, or_false] at hq
    rcases hq with rfl | rfl <;> (dsimp only; decide)
end
end Mine

namespace Mine
theorem FL.ofFr {S h : Heap} {L : Addr} {m : Str → Option Value} {l : List (Str × Value)} (F : Fr S L h m) (hl : ∀ p ∈ l, m p.1 = some p.2) : FL S L h l :=
  ⟨⟨m, F.ns, hl⟩, F.keep, Heap.get?_none_of_le F.above⟩
end Mine
set_option maxHeartbeats 8000000 in
theorem PySem.Challenge.cw_nt0338_01_holds : PySem.Challenge.rw_nt0338_01.Holds :=
  Mine.hd (by
  k_go0
  all_goals (try k_fold)
  rename_i w s₀ s₁ mg mb G Y fa o pm doc kV ho hg X V T B TE TW hcd ns hs hlay0 hLy hrr hl2 as4 as3 a vs as0 hL ra w1 r0 hI hr hc1 hc2 hD h₁ X' T' K' F' C₁ C₂ N' l0
  have C₃ := codeHd
  have F₀ := Mine.FL.ofFr (l := [(Str.ofString "script", .ref a)]) F' (fun p hp => by rw [List.mem_singleton.mp hp]; rfl)
  clear F' hcd hD X V T B TE TW Y G K'
  refine Mine.law_body (s := { s₁ with heap := h₁, toks := s₁.toks + 1 }) (S := ghostOf s₁.heap [(108, 106), (93, 91), (113, 111)]) (L := s₁.heap.objs.size) (a := a) (vs := vs) (ns := ns) (by rfl) rfl rfl ?room ⟨X', T'⟩ C₁ C₂ C₃ ?p1 ?p2 ?p3 ?n1 ?n2 ?n3 ?lt F₀ lifted hI ?sz ?fin
  all_goals (try clear F₀)
  case room => exact Mine.Room.deeper ⟨rfl, by decide, by decide⟩ _
  case sz => have e := hI.length; omega
  case p1 => exact (N' (106, tabObj #[]) (by k_mem)).1
  case p2 => exact (N' (91, tabObj #[]) (by k_mem)).1
  case p3 => exact (N' (111, tabObj #[]) (by k_mem)).1
  case n1 => exact (N' (106, tabObj #[]) (by k_mem)).2.2
  case n2 => exact (N' (91, tabObj #[]) (by k_mem)).2.2
  case n3 => exact (N' (111, tabObj #[]) (by k_mem)).2.2
  case lt => exact l0.2.2
  case fin =>
    intro h' tk lo k g1 g2 g3
    refine ⟨⟨.inl ⟨_, _, [], rfl, raisesW_false ?r, ReadsW.bool true, ?q, fun _ => ⟨List.nodup_nil, fun _ hm => nomatch hm⟩⟩, k, rfl, hg⟩, g1, g2, g3, trivial⟩
    case r => wrow_none_raised
    case q => kc_post)
