import PyProof.Rows.All
import Wide.All
import OpenK.AllK
import Wide.FinOn
import PyProof.InstStoreFacts
import Lean
import PySem.Challenge.RW_pq0703_02
open PySem PySem.W PySem.Calls PyProof.Rows PySem.Builtin PySem.Builtin.ObjectAttr
set_option compiler.extract_closed false
set_option linter.unusedVariables false
set_option linter.unusedSimpArgs false
set_option Elab.async false
set_option maxRecDepth 100000
set_option maxHeartbeats 4000000
namespace Mine
theorem ph.tw6714740191761075930 : True := trivial
theorem ph.tw2561708757153933913 : True := trivial
theorem ph.tw4498803701893223127 : True := trivial
theorem ph.tw16412037698399168852 : True := trivial
theorem ph.tw11889133444878653524 : True := trivial
theorem ph.tw16501135820443565936 : True := trivial
theorem ph.tw5412991489724669903 : True := trivial
theorem ph.tw3269708197371087791 : True := trivial
theorem ph.tw11584364672362135311 : True := trivial
theorem ph.tw2924994741331041359 : True := trivial
theorem ph.tw4616524814389312206 : True := trivial
theorem ph.tw1011232120283721420 : True := trivial
theorem ph.tw15963777513931125036 : True := trivial
theorem ph.tw3929069602763808651 : True := trivial
theorem ph.tw3743944548213339467 : True := trivial
theorem ph.tw16517659745105057066 : True := trivial
theorem ph.tw6955527583545608584 : True := trivial
theorem ph.tw12153566837370353704 : True := trivial
theorem ph.tw17077567548465744871 : True := trivial
theorem ph.tw14554322393581522500 : True := trivial
theorem ph.tw8011094172129956100 : True := trivial
theorem ph.tw10264719558377478276 : True := trivial
theorem ph.tw8540074955105337922 : True := trivial
theorem ph.tw8690253580697529570 : True := trivial
theorem ph.tw7443115815975921749 : True := trivial
theorem ph.tw479745652072997345 : True := trivial
set_option Elab.async true
theorem ph : True := by
  first
  | exact (fun _ => trivial) (with_decl_name% Mine.ph.hd ((by w_on; o_law; k_head; (case hw => w_witness2); fail "x" : PySem.Challenge.rw_pq0703_02.Holds) :))
  | trivial
set_option Elab.async false
theorem ph1 : True := by decide
set_option Elab.async true
open_top ph.hd for PySem.Challenge.rw_pq0703_02
set_option Elab.async false

/-- a cell says what an object is like -/
noncomputable abbrev Cell := Obj → Prop
noncomputable abbrev Led := List (Addr × Cell)

structure Bs where
  B : Heap
  gens : Array GenState
  drawn : Drawn
  os : OsState

structure StR (b : Bs) (h : Heap) (g : Array GenState) (d : Drawn) (os : OsState) (l : Led) : Prop where
  gens : g = b.gens
  drawn : d = b.drawn
  os : os = b.os
  stays : ∀ a o, b.B.get? a = some o → h.get? a = some o
  at_ : ∀ p ∈ l, ∃ o, h.get? p.1 = some o ∧ p.2 o
  fresh : ∀ p ∈ l, b.B.get? p.1 = none
  nodup : (l.map (·.1)).Nodup

noncomputable abbrev St (b : Bs) (s : Shared) (l : Led) : Prop := StR b s.heap s.gens s.drawn s.os l

inductive Del : Led → Addr → Cell → Led → Prop
  | head {a P l} : Del ((a, P) :: l) a P l
  | tail {q l a P l'} : Del l a P l' → Del (q :: l) a P (q :: l')

theorem Del.perm {l l' : Led} {a : Addr} {P : Cell} (h : Del l a P l') : l.Perm ((a, P) :: l') := by
  induction h with
  | head => exact .refl _
  | tail _ ih => exact (List.Perm.cons _ ih).trans (List.Perm.swap _ _ _)

theorem Del.mem {l l' : Led} {a : Addr} {P : Cell} (h : Del l a P l') : (a, P) ∈ l := h.perm.mem_iff.mpr (List.mem_cons_self)

theorem Del.up {l l' : Led} {a : Addr} {P : Cell} (h : Del l a P l') {q : Addr × Cell} (hq : q ∈ l') : q ∈ l := h.perm.mem_iff.mpr (List.mem_cons_of_mem _ hq)

section
variable {b : Bs} {h h' : Heap} {g : Array GenState} {d : Drawn} {os : OsState} {l l' : Led} {a : Addr} {P P' : Cell} {o o' : Obj}

theorem StR.perm (S : StR b h g d os l) (p : l.Perm l') : StR b h g d os l' :=
  ⟨S.gens, S.drawn, S.os, S.stays, fun q hq => S.at_ q (p.mem_iff.mpr hq), fun q hq => S.fresh q (p.mem_iff.mpr hq), (p.map _).nodup_iff.mp S.nodup⟩
theorem StR.del (S : StR b h g d os l) (D : Del l a P l') : StR b h g d os ((a, P) :: l') := S.perm D.perm
theorem StR.drop (S : StR b h g d os ((a, P) :: l)) : StR b h g d os l :=
  ⟨S.gens, S.drawn, S.os, S.stays, fun q hq => S.at_ q (.tail _ hq), fun q hq => S.fresh q (.tail _ hq), (List.nodup_cons.mp S.nodup).2⟩
theorem StR.sub (S : StR b h g d os l) (p : l'.Sublist l) : StR b h g d os l' :=
  ⟨S.gens, S.drawn, S.os, S.stays, fun q hq => S.at_ q (p.subset hq), fun q hq => S.fresh q (p.subset hq), (p.map _).nodup S.nodup⟩
theorem StR.get (S : StR b h g d os l) (m : (a, P) ∈ l) : ∃ o, h.get? a = some o ∧ P o := S.at_ _ m
theorem StR.head (S : StR b h g d os ((a, P) :: l)) : ∃ o, h.get? a = some o ∧ P o := S.at_ _ (.head _)
theorem StR.weak (S : StR b h g d os ((a, P) :: l)) (w : ∀ o, P o → P' o) : StR b h g d os ((a, P') :: l) :=
  ⟨S.gens, S.drawn, S.os, S.stays, fun q hq => by
    cases hq with
    | head => obtain ⟨o, ho, hp⟩ := S.head; exact ⟨o, ho, w o hp⟩
    | tail _ hq => exact S.at_ q (.tail _ hq), fun q hq => by
    cases hq with
    | head => exact S.fresh (a, P) (.head _)
    | tail _ hq => exact S.fresh q (.tail _ hq), S.nodup⟩

theorem StR.set (S : StR b h g d os ((a, P) :: l)) (hs : Heap.SameBut a h h') (ho : h'.get? a = some o') (hp : P' o') : StR b h' g d os ((a, P') :: l) := by
  have hn := List.nodup_cons.mp S.nodup
  refine ⟨S.gens, S.drawn, S.os, fun c x e => (hs.2 c fun q => ?_).trans (S.stays c x e), fun q hq => ?_, fun q hq => ?_, S.nodup⟩
  · have := S.fresh (a, P) (.head _); rw [q] at e; dsimp only at this; rw [this] at e; cases e
  · cases hq with
    | head => exact ⟨o', ho, hp⟩
    | tail _ hq =>
      obtain ⟨x, hx, px⟩ := S.at_ q (.tail _ hq)
      exact ⟨x, (hs.2 q.1 fun z => hn.1 (List.mem_map.mpr ⟨q, hq, z⟩)).trans hx, px⟩
  · cases hq with
    | head => exact S.fresh (a, P) (.head _)
    | tail _ hq => exact S.fresh q (.tail _ hq)

theorem StR.upd (S : StR b h g d os ((a, P) :: l)) {f : Obj → Obj} (ho : h.get? a = some o) (hf : (f o).isFreed = false) (hp : P' (f o)) : StR b (h.update a f) g d os ((a, P') :: l) :=
  S.set (Heap.SameBut.update ..) (Heap.get?_update_self f ho hf) hp

/-- all that is known stays where everything stays -/
theorem StR.keeps (S : StR b h g d os l) (k : ∀ c x, h.get? c = some x → h'.get? c = some x) : StR b h' g d os l :=
  ⟨S.gens, S.drawn, S.os, fun c x e => k c x (S.stays c x e), fun q hq => let ⟨x, hx, px⟩ := S.at_ q hq; ⟨x, k _ _ hx, px⟩, S.fresh, S.nodup⟩

theorem StR.new (S : StR b h g d os l) (k : ∀ c x, h.get? c = some x → h'.get? c = some x) (hn : h.objs.size ≤ a) (ho : h'.get? a = some o) (hp : P o) : StR b h' g d os ((a, P) :: l) := by
  refine ⟨S.gens, S.drawn, S.os, (S.keeps k).stays, fun q hq => ?_, fun q hq => ?_, List.nodup_cons.mpr ⟨fun hm => ?_, S.nodup⟩⟩
  · cases hq with
    | head => exact ⟨o, ho, hp⟩
    | tail _ hq => exact (S.keeps k).at_ q hq
  · cases hq with
    | head =>
      cases e : b.B.get? a with
      | none => rfl
      | some x => exact absurd (Heap.lt_size (S.stays _ _ e)) (Nat.not_lt.mpr hn)
    | tail _ hq => exact S.fresh q hq
  · obtain ⟨q, hq, e⟩ := List.mem_map.mp hm
    obtain ⟨x, hx, _⟩ := S.at_ q hq
    exact absurd (Heap.lt_size hx) (Nat.not_lt.mpr (e ▸ hn))

theorem StR.push (S : StR b h g d os l) (hf : o.isFreed = false) (hp : P o) : StR b (h.push o) g d os ((h.objs.size, P) :: l) :=
  S.new (fun _ _ e => Heap.get?_push_of_some _ e) (Nat.le_refl _) (Heap.get?_push_size _ hf) hp
end

/-- one token later -/
noncomputable abbrev Tk (s : Shared) : Shared := { s with toks := s.toks + 1 }
/-- what a body hands back; what becomes of its error, of an error in a loop -/
noncomputable def RQ (Q : Value → Shared → Prop) (fl : Flow) (s : Shared) : Prop := Q (match fl with | .ret v => v | _ => .none) s
theorem RQ.ret {Q : Value → Shared → Prop} {v : Value} {s : Shared} (h : Q v s) : RQ Q (.ret v) s := h
theorem RQ.next {Q : Value → Shared → Prop} {s : Shared} (h : Q .none s) : RQ Q .next s := h
noncomputable def LV (M : Model) (A : Around) (env : Env) (E : Value → Shared → Prop) (e : Value) (s : Shared) : Prop := wpAny M (A.deeper env) (leaving env e) (fun _ s3 => E e s3) (fun e' s3 => E e' s3) s
noncomputable def EN (M : Model) (A : Around) (env : Env) (E : Value → Shared → Prop) : Value → Shared → Prop := notedBy M A env fun e s => cameBackBy M A env E e s
/-- what is wanted behind a statement, as one letter -/
structure SeqQ (M : Model) (A : Around) (env : Env) (rest : List Stmt) (Q : Flow → Shared → Prop) (E : Value → Shared → Prop) (R : Flow → Shared → Prop) : Prop where
  next : ∀ s, wpAny M A (execs rest env) Q E s → R .next s
  ret : ∀ v s, Q (.ret v) s → R (.ret v) s
  brk : ∀ s, Q .brk s → R .brk s
  cont : ∀ s, Q .cont s → R .cont s
theorem r_seq {M : Model} {A : Around} {env : Env} {st : Stmt} {rest : List Stmt} {Q : Flow → Shared → Prop} {E : Value → Shared → Prop} {s : Shared} (h : ∀ R, SeqQ M A env rest Q E R → wpAny M A (exec st env) R E s) : wpAny M A (execs (st :: rest) env) Q E s :=
  wpAny_execs_cons (wpAny_mono (h (fun f s' => match f with | .next => wpAny M A (execs rest env) Q E s' | f => Q f s') ⟨fun _ h => h, fun _ _ h => h, fun _ h => h, fun _ h => h⟩) (fun f s h => by cases f <;> exact h) fun _ _ h => h)
/-- the same behind a loop's turn; Z: behind its test -/
structure LpQ (N P : Shared → Prop) (Q R : Flow → Shared → Prop) (Z : Shared → Prop) : Prop where
  next : ∀ s, N s → R .next s
  cont : ∀ s, N s → R .cont s
  brk : ∀ s, P s → R .brk s
  ret : ∀ v s, Q (.ret v) s → R (.ret v) s
  els : ∀ s, P s → Z s
theorem LpQ.mk' {N P : Shared → Prop} {Q : Flow → Shared → Prop} : LpQ N P Q (fun f s => match f with | .next | .cont => N s | .brk => P s | .ret v => Q (.ret v) s) P := ⟨fun _ h => h, fun _ h => h, fun _ h => h, fun _ _ h => h, fun _ h => h⟩
/-- a turn of a while, of a for -/
noncomputable def WTurn (M : Model) (A : Around) (env : Env) (test : Expr) (body : List Stmt) (R : Flow → Shared → Prop) (Z : Shared → Prop) (E : Value → Shared → Prop) (s : Shared) : Prop :=
  wpAny M A (isTrue test env (eval test env)) (fun b s₂ => if b then wpAny M A (execs body env) R (EN M A env E) s₂ else Z s₂) (EN M A env E) s
theorem WTurn.of {M : Model} {A : Around} {env : Env} {test : Expr} {body : List Stmt} {R : Flow → Shared → Prop} {Z : Shared → Prop} {E : Value → Shared → Prop} {s : Shared}
    (h : wpAny M A (isTrue test env (eval test env)) (fun b s₂ => if b then wpAny M A (execs body env) R (EN M A env E) s₂ else Z s₂) (EN M A env E) s) : WTurn M A env test body R Z E s := h
noncomputable def FTurn (M : Model) (A : Around) (env : Env) (x : Str) (v : Value) (body : List Stmt) (R : Flow → Shared → Prop) (E : Value → Shared → Prop) (s : Shared) : Prop :=
  wpAny M A (storeName env x v) (fun _ s₂ => wpAny M A (execs body env) R (EN M A env E) s₂) (EN M A env E) s
theorem FTurn.of {M : Model} {A : Around} {env : Env} {x : Str} {v : Value} {body : List Stmt} {R : Flow → Shared → Prop} {E : Value → Shared → Prop} {s : Shared}
    (h : wpAny M A (storeName env x v) (fun _ s₂ => wpAny M A (execs body env) R (EN M A env E) s₂) (EN M A env E) s) : FTurn M A env x v body R E s := h
/-- the same where a statement is cut off -/
structure CutQ (P : Shared → Prop) (Q R : Flow → Shared → Prop) : Prop where
  next : ∀ s, P s → R .next s
  ret : ∀ v s, Q (.ret v) s → R (.ret v) s
  brk : ∀ s, Q .brk s → R .brk s
  cont : ∀ s, Q .cont s → R .cont s

structure NxtQ (P : Shared → Prop) (R : Flow → Shared → Prop) : Prop where
  next : ∀ s, Flow.next = .next ∧ P s → R .next s

/-- l' can be taken out of l -/
inductive Ext : Led → Led → Prop
  | all {l} : Ext l l
  | nil {l} : Ext l []
  | cons {l l1 l2 a P} : Del l a P l1 → Ext l1 l2 → Ext l ((a, P) :: l2)
  | drop {l l' p} : Ext l l' → Ext (p :: l) l'
theorem Ext.subperm {l l' : Led} (h : Ext l l') : ∃ l'' : Led, l''.Sublist l ∧ l''.Perm l' := by
  induction h with
  | @all l => exact ⟨l, .refl _, .refl _⟩
  | nil => exact ⟨[], List.nil_sublist _, .refl _⟩
  | @cons l l1 l2 a P d _ ih =>
    obtain ⟨l'', s, p⟩ := ih
    have s2 : ((a, P) :: l'').Sublist ((a, P) :: l1) := .cons_cons _ s
    obtain ⟨l3, p3, s3⟩ := List.exists_perm_sublist s2 d.perm.symm
    exact ⟨l3, s3, p3.trans (.cons _ p)⟩
  | drop _ ih => obtain ⟨l'', s, p⟩ := ih; exact ⟨l'', .cons _ s, p⟩
theorem StR.ext {b : Bs} {h : Heap} {g : Array GenState} {d : Drawn} {os : OsState} {l l' : Led} (S : StR b h g d os l) (e : Ext l l') : StR b h g d os l' :=
  let ⟨_, s, p⟩ := e.subperm; (S.sub s).perm p

/-- a frame's names -/
noncomputable def fr (m : Str → Option Value) : Cell := fun o => ∃ es ep, o.data = .dict es ep ∧ StrKeys es ∧ ∀ x, nsFind es x = m x

theorem ns_of_fr {h : Heap} {a : Addr} {m : Str → Option Value} (x : ∃ o, h.get? a = some o ∧ fr m o) : h.Ns a m :=
  let ⟨o, ho, es, ep, r⟩ := x; ⟨o, es, ep, ho, r⟩
theorem fr_of_ns {h : Heap} {a : Addr} {m : Str → Option Value} (x : h.Ns a m) : ∃ o, h.get? a = some o ∧ fr m o :=
  let ⟨o, es, ep, ho, r⟩ := x; ⟨o, ho, es, ep, r⟩

section
variable {M : Model} {A : Around} {E : Value → Shared → Prop} {b : Bs} {s : Shared} {l l' : Led} {name : Str} {scope : Scope} {L f : Addr} {cd : Value} {m : Str → Option Value}

noncomputable abbrev up (m : Str → Option Value) (x : Str) (v : Value) : Str → Option Value := fun y => if y = x then some v else m y

theorem r_name {x : Str} {pos : Pos} {v : Value} {Q : Value → Shared → Prop} (S : St b s l) (G : (L, fr m) ∈ l) (hv : m x = some v) (hk : scope.kind = .function)
    (hl : scope.names.lookup x = some .local) (hd : (x == ("__debug__" : Str)) = false) (h : Q v s) : wpAny M A (eval (.Name x pos) (envOf name scope L f cd)) Q E s :=
  wpAny_Name (wpAny_loadName_local hk hl (ns_of_fr (S.get G)) hv h) hd

theorem r_store {x : Str} {v : Value} {Q : Unit → Shared → Prop} (S : St b s l) (D : Del l L (fr m) l') (hk : scope.kind = .function)
    (hl : scope.names.lookup x = some .local) (h : ∀ s', St b s' ((L, fr (up m x v)) :: l') → Q () s') : wpAny M A (storeName (envOf name scope L f cd) x v) Q E s := by
  have S' := S.del D
  refine wpAny_storeName_local hl (ns_of_fr S'.head) (fun h' hn hs => h _ ?_) (by show (scope.kind == .class || (scope.kind == .module && L != mainGlobals)) = false; rw [hk]; rfl)
  obtain ⟨o, ho, p⟩ := fr_of_ns hn
  exact S'.set hs ho p
end

/-- the world's facts of the base heap -/
structure Wd (K : Frag) (b : Bs) : Prop where
  inK : K.In b.B
  nolimit : b.B.NoLimit
  g : ∃ mg, b.B.Ns mainGlobals mg
  bb : ∃ mb, b.B.Ns builtinsNs mb ∧ ∀ x : Str, x ≠ "__name__" → mb x = bootBuiltins x

section
variable {prog : Program} {w : World} {M : Model} {A : Around} {E : Value → Shared → Prop} {b : Bs} {s : Shared} {l l' : Led} {name : Str} {scope : Scope} {L f x dx C : Addr} {cd : Value} {m : Str → Option Value} {K : Frag} {n n' : Nat}

theorem Wd.inS (X : Wd K b) (S : St b s l) : K.In s.heap := X.inK.keeps S.stays

theorem r_glob {y : Str} {pos : Pos} {v : Value} {Q : Value → Shared → Prop} (X : Wd K b) (S : St b s l) (e : nsIn K mainGlobals y = some (some v)) (hk : scope.kind = .function)
    (hl : scope.names.lookup y = some .globalImplicit) (hd : (y == ("__debug__" : Str)) = false) (h : Q v s) : wpAny M A (eval (.Name y pos) (envOf name scope L f cd)) Q E s := by
  obtain ⟨mg, hg⟩ := X.g
  exact Calls.Name_function_global hk hl (Calls.loadGlobal_global (env := envOf name scope L f cd) (hg.keeps S.stays) (mg_of X.inK hg e) h) hd

theorem r_bltn {y : Str} {pos : Pos} {v : Value} {Q : Value → Shared → Prop} (X : Wd K b) (S : St b s l) (e : nsIn K mainGlobals y = some none) (hv : bootBuiltins y = some v) (hn : y ≠ "__name__") (hk : scope.kind = .function)
    (hl : scope.names.lookup y = some .globalImplicit) (hd : (y == ("__debug__" : Str)) = false) (h : Q v s) : wpAny M A (eval (.Name y pos) (envOf name scope L f cd)) Q E s := by
  obtain ⟨mg, hg⟩ := X.g
  obtain ⟨mb, hb, hbb⟩ := X.bb
  exact Calls.Name_function_global hk hl (Calls.loadGlobal_builtin (env := envOf name scope L f cd) (hg.keeps S.stays) (mg_none_of X.inK hg e) (hb.keeps S.stays) ((hbb y hn).trans hv) h) hd

/-- an object of an own class; its dict (n entries at most) -/
noncomputable def inst (C dx : Addr) : Cell := fun o => o = instObj C dx
noncomputable def ids (n : Nat) (m : Str → Option Value) : Cell := fun o => ∃ es ep, o = ⟨.type "dict", none, .dict es ep, #[]⟩ ∧ StrKeys es ∧ (∀ x, nsFind es x = m x) ∧ es.size ≤ n

theorem noRef {es : Array DictEntry} (hk : StrKeys es) : es.any (·.refKey) = false := by
  rw [Array.any_eq_false']; intro e he; obtain ⟨n, t, h⟩ := hk e he; simp [DictEntry.refKey, h]

theorem lookIn_ids {o : Obj} (h : ids n m o) (y : Str) : lookIn y o = some (m y) := by
  obtain ⟨es, ep, rfl, hk, hf, _⟩ := h
  have := hf y
  unfold lookIn
  dsimp only
  unfold nsFind findBy at this
  rw [← Array.find?_toList] at this
  split
  · rename_i e he; rw [he] at this; rw [← this]; rfl
  · rename_i he
    rw [he] at this
    rw [if_neg (by rw [Array.any_toList, noRef hk]; decide), ← this]; rfl

theorem instAt (S : St b s l) (G1 : (x, inst C dx) ∈ l) (G2 : (dx, ids n m) ∈ l) : ∃ od, ids n m od ∧ InstAt s.heap x (instObj C dx) C (some od) := by
  obtain ⟨o, ho, e⟩ := S.get G1
  obtain ⟨od, hod, q⟩ := S.get G2
  cases e
  exact ⟨od, q, ho, rfl, rfl, hod⟩

/-- a field that no class of the line hides -/
noncomputable def getOk (K : Frag) (C : Addr) (y : Str) : Bool := plainGet K C y && hasDictIn K C && (match findIn K (.ref C) y with | some a => noGet K a | none => false)

theorem r_getattr {y : Str} {v : Value} {expr : Bool} {Q : Value → Shared → Prop} (X : Wd K b) (S : St b s l) (G1 : (x, inst C dx) ∈ l) (G2 : (dx, ids n m) ∈ l) (hok : getOk K C y = true) (hv : m y = some v) (hh : handedIn v = true)
    (h : ∀ s', St b s' l → Q v s') : wpAny (model prog w) A (getAttr (.ref x) y expr) Q E s := by
  obtain ⟨od, q, I⟩ := instAt S G1 G2
  unfold getOk at hok
  simp only [Bool.and_eq_true] at hok
  obtain ⟨⟨h1, h2⟩, h3⟩ := hok
  split at h3
  · rename_i a ha
    exact get_value (X.inS S) I (plainGet_of h1).1 (findObj_own h2 ha h3 (by rw [lookIn_ids q, hv])) hh (h _ S)
  · cases h3

/-- a def of the class that the object does not hide -/
noncomputable def methOk (K : Frag) (C : Addr) (y : Str) (f : Addr) : Bool := plainGet K C y && findIn K (.ref C) y == some (some (.ref f)) && isFn K (.ref f)

theorem r_getmeth {y : Str} {pl : Sem Bool} {Q : Value × List Value → Shared → Prop} (X : Wd K b) (S : St b s l) (G1 : (x, inst C dx) ∈ l) (G2 : (dx, ids n m) ∈ l) (hok : methOk K C y f = true) (hv : m y = none)
    (h : Q (.ref f, [.ref x]) s) : wpAny (model prog w) A (getMethod (.ref x) y pl) Q E s := by
  obtain ⟨od, q, I⟩ := instAt S G1 G2
  unfold methOk at hok
  simp only [Bool.and_eq_true, beq_iff_eq] at hok
  obtain ⟨⟨h1, h2⟩, h3⟩ := hok
  exact method_fn (X.inS S) I (plainGet_of h1).1 (plainGet_of h1).2 h2 (beq_iff_eq.mp h3) (by unfold shadowIn; dsimp only; rw [lookIn_ids q, hv]; rfl) h

theorem up_none {m : Str → Option Value} {y z : Str} {v : Value} (h : ¬ z = y) : up m y v z = m z := if_neg h

theorem ids_put {es : Array DictEntry} {ep : Nat} {y : Str} {hsh : Int} {t : Tok} {v : Value} (hk : StrKeys es) (hf : ∀ z, nsFind es z = m z) (hz : es.size ≤ n) (hn : (m y).isSome = true ∧ n' = n ∨ n' = n + 1) :
    ids n' (up m y v) (Obj.putName y hsh (.str y t) v ⟨.type "dict", none, .dict es ep, #[]⟩) := by
  rw [Obj.putName_eq]
  unfold Obj.putNameByArray
  cases hi : es.findIdx? (·.key.isStr y) with
  | some i =>
    simp only [hi]
    refine ⟨es.modify i fun e => { e with val := v }, ep, rfl, hk.modify _ _, fun z => ?_, by rw [Array.size_modify]; rcases hn with ⟨_, rfl⟩ | rfl <;> omega⟩
    show _ = if z = y then some v else m z
    rw [← hf]; exact findBy_modify (fun n v => v.isStr n) Value.isStr_inj es y z v i hi
  | none =>
    simp only [hi]
    refine ⟨es.push ⟨hsh, .str y t, v⟩, ep + 1, rfl, hk.push _ _ _ _, fun z => ?_, ?_⟩
    · show _ = if z = y then some v else m z
      rw [← hf]
      exact findBy_push (fun n v => v.isStr n) es y z _ _ v (fun u => by
        show (y == u) = decide (u = y)
        by_cases h : u = y
        · subst h; simp
        · have : ¬ y = u := fun e => h e.symm
          simp [h, this]) hi
    · rcases hn with ⟨h1, _⟩ | rfl
      · have := hf y
        unfold nsFind at this
        rw [findBy_of_findIdx?] at this
        simp only [hi] at this
        rw [← this] at h1; cases h1
      · rw [Array.size_push]; omega

/-- a field that is stored into an own dict -/
noncomputable def setOk (K : Frag) (C : Addr) (y : Str) : Bool := findIn K (.ref C) "__setattr__" == some (some (.builtin "object.__setattr__")) && plainOver K C && takerIn K C y == some none && (clsIn K C).any (·.hasDict)

theorem r_setattr {y : Str} {v : Value} {Q : Unit → Shared → Prop} (X : Wd K b) (S : St b s l) (G1 : (x, inst C dx) ∈ l) (D : Del l dx (ids n m) l') (hok : setOk K C y = true) (hz : n' ≤ 1000) (hn : (m y).isSome = true ∧ n' = n ∨ n' = n + 1)
    (h : ∀ s', St b s' ((dx, ids n' (up m y v)) :: l') → Q () s') : wpAny (model prog w) A (setAttr (.ref x) y v) Q E s := by
  obtain ⟨od, q, I⟩ := instAt S G1 D.mem
  unfold setOk at hok
  simp only [Bool.and_eq_true, beq_iff_eq] at hok
  obtain ⟨⟨⟨h1, h2⟩, h3⟩, h4⟩ := hok
  have XS := X.inS S
  refine set_plain XS I h1 (osa_open (s := { s with toks := s.toks + 1 }) XS I h2 h3 fun b' => ?_)
  obtain ⟨cd, hc, hd'⟩ := any_some h4
  have S' := S.del D
  have D' := I.dict
  dsimp only at D'
  have hx := I.at_
  obtain ⟨es, ep, rfl, hk, hf, hsz⟩ := q
  refine wpAny_bind (wpAny_pure (wpAny_bind (wpAny_bind (wpAny_loadPart hx (wpAny_bind (Looks.here (s := { s with toks := s.toks + 1 }) (looks_clsIn XS hc) ?_))))))
  rw [hd']
  refine wpAny_pure (a := some dx) (wpAny_bind (wpAny_pure (wpAny_bind ?_)))
  unfold nsSet
  refine wpAny_bind (wpAny_bind (wpAny_askSetting (wpAny_pure (wpAny_bind (wpAny_mkText (wpAny_bind (wpAny_loadPart D' ?_)))))))
  dsimp only
  rw [aRefKeyMayBeTheName_at, noRef hk, Bool.and_false]
  refine wpAny_updatePart D' ?_
  have P := ids_put (ep := ep) (y := y) (hsh := PyData.keyHash w.params y) (t := s.toks + 1) (v := v) hk hf hsz hn
  have hfr : (Obj.putName y (PyData.keyHash w.params y) (.str y (s.toks + 1)) v ⟨.type "dict", none, .dict es ep, #[]⟩).isFreed = false := by
    obtain ⟨es', ep', e, _⟩ := P; rw [e]; rfl
  have S2 := S'.upd (P' := ids n' (up m y v)) D' hfr P
  obtain ⟨o2, ho2, q2⟩ := S2.head
  obtain ⟨es2, ep2, rfl, _, _, hsz2⟩ := q2
  refine wpAny_bind (wpAny_lookBehind ho2 (pastItsLine_dict (by rw [sizeLine_eq]; omega)) ?_)
  exact wpAny_pure (h _ S2)
end

section
variable {prog : Program} {w : World} {A : Around} {E : Value → Shared → Prop} {b : Bs} {s : Shared} {l : Led} {K : Frag}

theorem r_call {name qual : Str} {params : Arguments} {body : List Stmt} {scope : Scope} {dV kV doc pm cdv ct oc : Value} {an od : Option Addr} {osl : Array (Option Value)} {f : Addr} {pos : List Value} {kw : List (Str × Value)} {binds : List (Str × Value)} {Q : Value → Shared → Prop}
    (X : Wd K b) (S : St b s l) (ho : K.lookup f = some ⟨oc, od, .func (fnOf name qual params body scope dV kV doc pm an cdv ct), osl⟩) (hcd : codeIn K cdv qual = true) (hroom : A.depth < recursionLimit)
    (hbind : BindsTo s (fnOf name qual params body scope dV kV doc pm an cdv ct) ⟨pos, kw⟩ binds) (hloc : ∀ y ∈ binds, scope.names.lookup y.1 = some .local) (hcell : ∀ x ∈ scope.names, x.2 ≠ .cell)
    (hco : scope.isCoroutine = false) (hgen : scope.isGenerator = false) (hk : scope.kind = .function)
    (h : ∀ s' L, St b s' ((L, fr (fun y => binds.reverse.lookup y)) :: l) →
      wpAny (model prog w) (A.deeper (envOf qual scope L f cdv)) (execs body (envOf qual scope L f cdv))
        (RQ Q) (LV (model prog w) A (envOf qual scope L f cdv) E) s') :
    wpAny (model prog w) A (call (.ref f) pos kw) Q E s := by
  refine wpAny_call (codeAny_call_def (fd := fnOf name qual params body scope dV kV doc pm an cdv ct) (body := body) (binds := binds) hroom (X.inS S _ _ ho) rfl (X.nolimit.keeps S.stays) (codeRec_of (X.inS S) hcd) rfl hbind hcell hloc (fun h₁ hns hk₁ => ?_) hco hgen hk)
  obtain ⟨o, ho', p⟩ := fr_of_ns hns
  have S' := S.new (a := s.heap.objs.size) hk₁ (Nat.le_refl _) ho' p
  exact h { s with heap := h₁, toks := s.toks + binds.length } s.heap.objs.size S'
end

/-- the frames of the stack lie in the ledger -/
noncomputable def FrIn (l : List Env) (R : Led) : Prop := ∀ env ∈ l, env.scope.kind ≠ .module ∧ ∃ L m, env.frame = some L ∧ (L, fr m) ∈ R

theorem FrIn.mono {l : List Env} {R R' : Led} (h : FrIn l R) (k : ∀ p ∈ R, p ∈ R') : FrIn l R' := fun env he =>
  let ⟨a, L, m, hf, hm⟩ := h env he; ⟨a, L, m, hf, k _ hm⟩
theorem FrIn.cons {l : List Env} {R : Led} {env : Env} {L : Addr} {m : Str → Option Value} (hk : env.scope.kind ≠ .module) (hf : env.frame = some L) (hm : (L, fr m) ∈ R) (h : FrIn l R) : FrIn (env :: l) R := fun e he => by
  cases he with
  | head => exact ⟨hk, L, m, hf, hm⟩
  | tail _ he => exact h e he

theorem nodup_same {l : Led} (hn : (l.map (·.1)).Nodup) {p q : Addr × Cell} (hp : p ∈ l) (hq : q ∈ l) (e : p.1 = q.1) : p = q := by
  induction l with
  | nil => cases hp
  | cons x l ih =>
    have hc := List.nodup_cons.mp hn
    cases hp with
    | head =>
      cases hq with
      | head => rfl
      | tail _ hq => exact absurd (List.mem_map.mpr ⟨q, hq, e.symm⟩) hc.1
    | tail _ hp =>
      cases hq with
      | head => exact absurd (List.mem_map.mpr ⟨p, hp, e⟩) hc.1
      | tail _ hq => exact ih hc.2 hp hq

theorem fr_slots {m : Str → Option Value} {o : Obj} {sl : Array (Option Value)} (h : fr m o) : fr m { o with slots := sl } := h

section
variable {b : Bs} {h h' : Heap} {g : Array GenState} {d : Drawn} {os : OsState} {R : Led} {fs : List Env}

theorem StR.funFrames (S : StR b h g d os R) (hF : FrIn fs R) : h.FunFrames b.B fs := by
  induction fs with
  | nil => trivial
  | cons env rest ih =>
    obtain ⟨hk, L, m, hf, hm⟩ := hF env (.head _)
    obtain ⟨o, ho, es, ep, hd, _⟩ := S.get hm
    exact ⟨hk, ⟨L, o, hf, S.fresh _ hm, ho, fun vs q => by rw [hd] at q; cases q⟩, ih fun e he => hF e (.tail _ he)⟩

theorem StR.slots (S : StR b h g d os R) (hF : FrIn fs R) (hs : Heap.SlotsOnly (fs.filterMap (·.frame)) h h') : StR b h' g d os R := by
  have hin : ∀ c ∈ fs.filterMap (·.frame), ∃ m, (c, fr m) ∈ R := fun c hc => by
    obtain ⟨env, he, hf⟩ := List.mem_filterMap.mp hc
    obtain ⟨_, L, m, hf', hm⟩ := hF env he
    rw [hf] at hf'; cases hf'; exact ⟨m, hm⟩
  refine ⟨S.gens, S.drawn, S.os, fun c x e => ?_, fun p hp => ?_, S.fresh, S.nodup⟩
  · refine (hs.2.1 c fun q => ?_).trans (S.stays c x e)
    obtain ⟨m, hm⟩ := hin c q
    have := S.fresh _ hm
    dsimp only at this
    rw [this] at e; cases e
  · obtain ⟨o, ho, P⟩ := S.at_ p hp
    by_cases q : p.1 ∈ fs.filterMap (·.frame)
    · obtain ⟨m, hm⟩ := hin _ q
      have e := nodup_same S.nodup hp hm rfl
      obtain ⟨sl, hsl⟩ := hs.2.2 _ _ ho
      refine ⟨_, hsl, ?_⟩
      rw [e] at P ⊢
      exact fr_slots P
    · exact ⟨o, (hs.2.1 _ q).trans ho, P⟩
end

/-- an exception of an own class, its dict, the head of its trace -/
noncomputable def xc (C dxe : Addr) (tb : Value) : Cell := fun o => o.cls = .ref C ∧ o.dict = some dxe ∧ ∃ vs, o.data = .fields vs ∧ vs[1]? = some tb
noncomputable def tc : Cell := fun o => ∃ ts, o.data = .fields ts ∧ 3 < ts.size
noncomputable def tup (vs : List Value) : Cell := fun o => o.cls = .type "tuple" ∧ ∃ n, o.data = .seq vs.toArray n

theorem dict_mapFields (o : Obj) (f) : (o.mapFields f).dict = o.dict := by
  obtain ⟨c, d, dt, sl⟩ := o; cases dt <;> rfl

theorem xc_set {C dxe : Addr} {tb tb' : Value} {o : Obj} (h : xc C dxe tb o) : xc C dxe tb' (o.mapFields (·.setIfInBounds 1 tb')) ∧ (o.mapFields (·.setIfInBounds 1 tb')).isFreed = false := by
  obtain ⟨h1, h2, vs, h3, h4⟩ := h
  have hd := Obj.data_mapFields h3 (·.setIfInBounds 1 tb')
  have hl := (Array.getElem?_eq_some_iff.mp h4).1
  exact ⟨⟨(Obj.cls_mapFields _ _).trans h1, (dict_mapFields _ _).trans h2, _, hd, by simp [hl]⟩, Obj.isFreed_of_fields hd⟩
theorem tc_set {x : Value} {o : Obj} (h : tc o) : tc (o.mapFields (·.setIfInBounds 3 x)) ∧ (o.mapFields (·.setIfInBounds 3 x)).isFreed = false := by
  obtain ⟨ts, h1, h2⟩ := h
  have hd := Obj.data_mapFields h1 (·.setIfInBounds 3 x)
  exact ⟨⟨_, hd, by simp [h2]⟩, Obj.isFreed_of_fields hd⟩

section
variable {M : Model} {A : Around} {E : Value → Shared → Prop} {b : Bs} {s : Shared} {R : Led} {a T C dxe L : Addr} {tb : Value} {env : Env} {outer : List Env} {Q : Unit → Shared → Prop}

theorem x_entry {hadNext : Bool} {head : Value} (S : St b s ((a, xc C dxe tb) :: R)) (hF : FrIn (env :: outer) R) (hfr : A.frames = some (env :: outer)) (hf : env.frame = some L)
    (h : ∀ s' T, St b s' ((a, xc C dxe (.ref T)) :: (T, tc) :: R) → Q () s') :
    wpAny M A (do let x ← frameOf env; let pl ← entryPlaceOf L hadNext; let y ← EntryCells.newEntry head x .none (rawInt L) .none pl; setField (.ref a) 1 y) Q E s := by
  have hF' : FrIn (env :: outer) ((a, xc C dxe tb) :: R) := hF.mono fun p hp => .tail _ hp
  refine wpAny_bind (wpAny_frameOf_fun hfr (S.funFrames hF') hf fun h₁ hs₁ => ?_)
  have S₁ := S.slots hF' hs₁
  refine wpAny_bind (wpAny_entryPlaceOf fun pl hpl => ?_)
  unfold EntryCells.newEntry newFields
  refine wpAny_bind (wpAny_newObj_type ?_ (hpl.sizeOk5 _ _ _ _ _))
  have S₂ := S₁.push (o := { cls := .type "traceback", dict := none, data := .fields ([head, .ref L, .none, rawInt L, .none] ++ (if pl.isEmpty then List.replicate 6 Value.none else pl)).toArray }) (P := tc) rfl
    ⟨_, rfl, by simp only [List.size_toArray, List.length_append, List.length_cons, List.length_nil] <;> omega⟩
  have S₃ := S₂.perm (List.Perm.swap _ _ _)
  obtain ⟨o, ho, hx⟩ := S₃.head
  obtain ⟨vs, hd, hv⟩ := hx.2.2
  refine wpAny_setField ho hd (Array.getElem?_eq_some_iff.mp hv).1 (h _ h₁.objs.size ?_)
  have y := xc_set (tb' := .ref h₁.objs.size) hx
  exact S₃.upd ho y.2 y.1

noncomputable def tbl : Option Addr → Led
  | none => []
  | some T => [(T, tc)]
noncomputable def tbv : Option Addr → Value
  | none => .none
  | some T => .ref T

/-- an exception that is on its way, with its trace -/
theorem x_note {tb : Option Addr} (S : St b s ((a, xc C dxe (tbv tb)) :: (tbl tb ++ R))) (hF : FrIn (env :: outer) R) (hfr : A.frames = some (env :: outer))
    (h : ∀ s' T, St b s' ((a, xc C dxe (.ref T)) :: (T, tc) :: R) → Q () s') : wpAny M A (noteFrame (.ref a) env) Q E s := by
  obtain ⟨_, L, m, hf, hm⟩ := hF env (.head _)
  unfold noteFrame
  simp only [hf]
  obtain ⟨o, ho, hx⟩ := S.head
  obtain ⟨vs, hd, hv⟩ := hx.2.2
  cases tb with
  | none =>
    refine wpAny_bind (wpAny_field ho hd hv ?_)
    rw [if_neg (by decide)]
    exact x_entry S hF hfr hf h
  | some T =>
    refine wpAny_bind (wpAny_field ho hd (x := .ref T) hv ?_)
    rw [if_pos (show (Value.ref T != Value.none) = true from by simp)]
    obtain ⟨oT, hoT, ts, hdT, hsz⟩ := S.get (a := T) (P := tc) (.tail _ (.head _))
    refine wpAny_bind (wpAny_field hoT hdT (x := ts[3]) (Array.getElem?_eq_getElem hsz) ?_)
    split
    · exact wpAny_pure (h s T S)
    · refine wpAny_bind (wpAny_setField hoT hdT hsz ?_)
      have y := tc_set (x := .none) (⟨ts, hdT, hsz⟩ : tc oT)
      have S₁ := (S.perm (List.Perm.swap _ _ _)).upd hoT y.2 y.1
      exact x_entry (S₁.drop) hF hfr hf h

theorem x_flight {fl : Option Addr} (S : St b s ((a, xc C dxe (.ref T)) :: (T, tc) :: R)) (h : ∀ s', St b s' ((a, xc C dxe (.ref T)) :: (T, tc) :: R) → Q () s') : wpAny M A (setFlight (.ref a) fl) Q E s := by
  obtain ⟨o, ho, hx⟩ := S.head
  obtain ⟨vs, hd, hv⟩ := hx.2.2
  obtain ⟨oT, hoT, ts, hdT, hsz⟩ := S.get (a := T) (P := tc) (.tail _ (.head _))
  unfold setFlight
  refine wpAny_bind (wpAny_field ho hd hv ?_)
  rw [if_pos (show (Value.ref T != Value.none) = true from by simp)]
  refine wpAny_setField hoT hdT hsz (h _ ?_)
  have y := tc_set (x := fl.elim .none fun f => rawInt f) (⟨ts, hdT, hsz⟩ : tc oT)
  exact ((S.perm (List.Perm.swap _ _ _)).upd hoT y.2 y.1).perm (List.Perm.swap _ _ _)
/-- nothing flies yet: nothing is done -/
theorem x_flight0 {fl : Option Addr} (S : St b s ((a, xc C dxe .none) :: R)) (h : Q () s) : wpAny M A (setFlight (.ref a) fl) Q E s := by
  obtain ⟨o, ho, hx⟩ := S.head
  obtain ⟨vs, hd, hv⟩ := hx.2.2
  unfold setFlight
  refine wpAny_bind (wpAny_field ho hd hv ?_)
  rw [if_neg (by decide)]
  exact wpAny_pure h
end

/-- e is an exception of class C on its way; its dict tells the spot; R is what else is known -/
noncomputable def Exc (b : Bs) (C : Addr) (R : Led) (sp : Int × Int) (e : Value) (s : Shared) : Prop :=
  ∃ (a dxe t : Addr) (m : Str → Option Value) (t1 t2 : Tok) (tb : Option Addr), e = .ref a ∧ m "spot" = some (.ref t) ∧
    St b s ((a, xc C dxe (tbv tb)) :: (tbl tb ++ ((dxe, ids 10 m) :: (t, tup [.int sp.1 t1, .int sp.2 t2]) :: R)))
/-- and it bears a trace -/
noncomputable def Exc1 (b : Bs) (C : Addr) (R : Led) (sp : Int × Int) (e : Value) (s : Shared) : Prop :=
  ∃ (a dxe t : Addr) (m : Str → Option Value) (t1 t2 : Tok) (T : Addr), e = .ref a ∧ m "spot" = some (.ref t) ∧
    St b s ((a, xc C dxe (.ref T)) :: (T, tc) :: (dxe, ids 10 m) :: (t, tup [.int sp.1 t1, .int sp.2 t2]) :: R)

section
variable {M : Model} {A : Around} {E : Value → Shared → Prop} {b : Bs} {s : Shared} {R R' : Led} {C : Addr} {sp : Int × Int} {e : Value} {env : Env} {outer : List Env} {Q : Unit → Shared → Prop}
theorem Exc1.exc (x : Exc1 b C R sp e s) : Exc b C R sp e s := let ⟨a, dxe, t, m, t1, t2, T, h1, h2, S⟩ := x; ⟨a, dxe, t, m, t1, t2, some T, h1, h2, S⟩
theorem Exc.note (x : Exc b C R sp e s) (hF : FrIn (env :: outer) R) (hfr : A.frames = some (env :: outer)) (h : ∀ s', Exc1 b C R sp e s' → Q () s') : wpAny M A (noteFrame e env) Q E s := by
  obtain ⟨a, dxe, t, m, t1, t2, tb, rfl, h2, S⟩ := x
  exact x_note S (hF.mono fun p hp => .tail _ (.tail _ hp)) hfr fun s' T S' => h s' ⟨a, dxe, t, m, t1, t2, T, rfl, h2, S'⟩
theorem Exc1.flight {fl : Option Addr} (x : Exc1 b C R sp e s) (h : ∀ s', Exc1 b C R sp e s' → Q () s') : wpAny M A (setFlight e fl) Q E s := by
  obtain ⟨a, dxe, t, m, t1, t2, T, rfl, h2, S⟩ := x
  exact x_flight S fun s' S' => h s' ⟨a, dxe, t, m, t1, t2, T, rfl, h2, S'⟩
theorem Exc.leave (x : Exc b C R sp e s) (hF : FrIn (env :: outer) R) (hfr : A.frames = some (env :: outer)) (h : ∀ s', Exc1 b C R sp e s' → Q () s') : wpAny M A (leaving env e) Q E s := by
  unfold leaving
  exact wpAny_bind (x.note hF hfr fun s' y => y.flight h)
theorem Exc1.has {Q : Value → Shared → Prop} (x : Exc1 b C R sp e s) (h : ∀ T, Q (.ref T) s) : wpAny M A (field e 1) Q E s := by
  obtain ⟨a, dxe, t, m, t1, t2, T, rfl, h2, S⟩ := x
  obtain ⟨o, ho, hx⟩ := S.head
  obtain ⟨vs, hd, hv⟩ := hx.2.2
  exact wpAny_field ho hd hv (h T)
theorem Exc.sub (x : Exc b C R sp e s) (p : R'.Sublist R) : Exc b C R' sp e s := by
  obtain ⟨a, dxe, t, m, t1, t2, tb, rfl, h2, S⟩ := x
  exact ⟨a, dxe, t, m, t1, t2, tb, rfl, h2, S.sub (.cons_cons _ (.append (.refl _) (.cons_cons _ (.cons_cons _ p))))⟩
theorem Exc.perm (x : Exc b C R sp e s) (p : R.Perm R') : Exc b C R' sp e s := by
  obtain ⟨a, dxe, t, m, t1, t2, tb, rfl, h2, S⟩ := x
  exact ⟨a, dxe, t, m, t1, t2, tb, rfl, h2, S.perm (.cons _ (.append (.refl _) (.cons _ (.cons _ p))))⟩
theorem Exc1.sub (x : Exc1 b C R sp e s) (p : R'.Sublist R) : Exc1 b C R' sp e s := by
  obtain ⟨a, dxe, t, m, t1, t2, tb, rfl, h2, S⟩ := x
  exact ⟨a, dxe, t, m, t1, t2, tb, rfl, h2, S.sub (.cons_cons _ (.cons_cons _ (.cons_cons _ (.cons_cons _ p))))⟩
end

/-- a text by its signs -/
noncomputable abbrev tx (l : List Nat) : Str := ⟨l.toArray⟩

theorem tx_inj {a b : List Nat} : tx a = tx b ↔ a = b := ⟨fun h => by have := congrArg (fun x : Str => x.cps.toList) h; simpa using this, fun h => by rw [h]⟩
theorem tx_len (l : List Nat) : (tx l).length = l.length := by simp [Str.length]

theorem idx_clip (i j n : Nat) : Builtin.Str.strSliceIndices (some (i : Int)) (some (j : Int)) 1 n = Builtin.Str.strSliceIndices (some ((min i n : Nat) : Int)) (some ((min j n : Nat) : Int)) 1 n := by
  unfold Builtin.Str.strSliceIndices
  have h1 : ¬ ((i : Int) < 0) := by omega
  have h2 : ¬ ((j : Int) < 0) := by omega
  have h3 : ¬ (((min i n : Nat) : Int) < 0) := by omega
  have h4 : ¬ (((min j n : Nat) : Int) < 0) := by omega
  simp only [if_neg h1, if_neg h2, if_neg h3, if_neg h4, show (1 : Int) > 0 by decide, if_true]
  rw [show max 0 (min (i : Int) n) = max 0 (min ((min i n : Nat) : Int) n) by omega, show max 0 (min (j : Int) n) = max 0 (min ((min j n : Nat) : Int) n) by omega]
theorem idx_none (j n : Nat) : Builtin.Str.strSliceIndices none (some (j : Int)) 1 n = Builtin.Str.strSliceIndices (some ((0 : Nat) : Int)) (some (j : Int)) 1 n := by
  unfold Builtin.Str.strSliceIndices
  have h1 : ¬ (((0 : Nat) : Int) < 0) := by omega
  simp only [if_neg h1, show (1 : Int) > 0 by decide, if_true]
  rw [show max 0 (min ((0 : Nat) : Int) n) = 0 by omega]

theorem slice_ss (l : List Nat) (i j : Nat) (h : i ≤ j) : Txt.slice (tx l) (some (i : Int)) (some (j : Int)) = tx ((l.drop i).take (j - i)) := by
  have e : Txt.slice (tx l) (some (i : Int)) (some (j : Int)) = Txt.slice (tx l) (some ((min i l.length : Nat) : Int)) (some ((min j l.length : Nat) : Int)) := by
    unfold Txt.slice
    rw [tx_len, idx_clip]
  rw [e]
  have := slice_closes (x := tx l) (i := ((min i l.length : Nat) : Int)) (j := ((min j l.length : Nat) : Int)) ⟨by omega, by omega, by simp; omega⟩
  rw [beq_iff_eq.mp this]
  rw [tx_inj]
  simp only [Int.toNat_natCast]
  by_cases hi : i ≤ l.length
  · rw [show min i l.length = i by omega, show ((min j l.length : Nat) : Int) - ((i : Nat) : Int) = ((min j l.length - i : Nat) : Int) by omega, Int.toNat_natCast]
    by_cases hj : j ≤ l.length
    · rw [show min j l.length = j by omega]
    · rw [show min j l.length = l.length by omega, List.take_of_length_le (by simp), List.take_of_length_le (by simp; omega)]
  · rw [List.drop_of_length_le (by omega), List.drop_of_length_le (by omega)]; simp
theorem slice_ns (l : List Nat) (j : Nat) : Txt.slice (tx l) none (some (j : Int)) = tx (l.take j) := by
  have e : Txt.slice (tx l) none (some (j : Int)) = Txt.slice (tx l) (some ((0 : Nat) : Int)) (some (j : Int)) := by
    unfold Txt.slice
    rw [idx_none]
  rw [e, slice_ss _ _ _ (Nat.zero_le _)]; simp
theorem up_self {m : Str → Option Value} {x : Str} {v : Value} : up m x v x = some v := if_pos rfl
theorem up_ne {m : Str → Option Value} {x y : Str} {v : Value} (h : ¬ y = x) : up m x v y = m y := if_neg h

theorem w_ite {c : Bool} {P Q : Prop} (h1 : c = true → P) (h2 : c = false → Q) : if c then P else Q := by
  cases c
  · exact h2 rfl
  · exact h1 rfl
theorem w_true {P Q : Prop} (h : P) : if true = true then P else Q := by rw [if_pos rfl]; exact h
theorem w_false {P Q : Prop} (h : Q) : if false = true then P else Q := by rw [if_neg (by decide)]; exact h

section
variable {prog : Program} {w : World} {M : Model} {A : Around} {E : Value → Shared → Prop} {b : Bs} {s : Shared} {l : Led} {env : Env}

theorem tx_cps (a : List Nat) : (tx a).cps.toList = a := rfl
theorem beq_dec (a b : List Nat) : (a == b) = decide (a = b) := by rw [Bool.eq_iff_iff]; simp
theorem bne_dec (a b : List Nat) : (a != b) = !decide (a = b) := by rw [bne, beq_dec]
theorem r_eq_str {x y : Str} {t u : Tok} {Q : Value → Shared → Prop} (h : Q (.bool (decide (x.cps.toList = y.cps.toList))) s) : wpAny (model prog w) A (compareOp .Eq (.str x t) (.str y u)) Q E s := by
  refine PyProof.Rows.eq_str ?_
  rw [← PyProof.Rows.toList_beq, beq_dec]; exact h
theorem r_ne_str {x y : Str} {t u : Tok} {Q : Value → Shared → Prop} (h : Q (.bool (!decide (x.cps.toList = y.cps.toList))) s) : wpAny (model prog w) A (compareOp .NotEq (.str x t) (.str y u)) Q E s := by
  refine PyProof.Rows.ne_str ?_
  rw [← PyProof.Rows.toList_bne, bne_dec]; exact h
theorem r_spliced {pos : Pos} {e : Expr} {rest : List Expr} {Q : List Value → Shared → Prop}
    (h : wpAny M A (eval e env) (fun v s₁ => wpAny M A (spliced (backTo pos (starEach rest env))) (fun vs s₂ => Q (v :: vs) s₂) E s₁) E s)
    (he : starEach (e :: rest) env = (false, eval e env) :: starEach rest env) : wpAny M A (spliced (backTo pos (starEach (e :: rest) env))) Q E s := by
  rw [he]; exact Calls.spliced_cons h

theorem Call_Name_ {id : Str} {p pos : Pos} {args : List Expr} {Q : Value → Shared → Prop}
    (h : wpAny M A (eval (.Name id p) env) (fun f s₁ => wpAny M A (callWith pos f [] (backTo pos (starEach args env)) []) Q E s₁) E s) :
    wpAny M A (eval (.Call (.Name id p) args [] pos) env) Q E s := wpAny_Call_Name_kw h

section
variable {i j : Int} {t u : Tok} {Q : Value → Shared → Prop}
theorem r_int {k : Nat} {pos : Pos} (h : Q (.int i s.toks) (Tk s)) : wpAny M A (eval (.Constant (.int i) k pos) env) Q E s := wpAny_Constant_int h
theorem r_str {x : Str} {k : Nat} {pos : Pos} (h : Q (.str x s.toks) (Tk s)) : wpAny M A (eval (.Constant (.str x) k pos) env) Q E s := Calls.Constant_str h
theorem r_add (h : Q (.int (i + j) s.toks) (Tk s)) : wpAny (model prog w) A (binaryOp .Add (.int i t) (.int j u)) Q E s := add_int h
theorem r_sub (h : Q (.int (i - j) s.toks) (Tk s)) : wpAny (model prog w) A (binaryOp .Sub (.int i t) (.int j u)) Q E s := sub_int h
theorem r_iadd (h : Q (.int (i + j) s.toks) (Tk s)) : wpAny (model prog w) A (inplaceOp .Add (.int i t) (.int j u)) Q E s := iadd_int h
end
noncomputable def locOk (scope : Scope) (y : Str) : Bool := scope.kind == .function && scope.names.lookup y == some .local && !(y == ("__debug__" : Str))
noncomputable def globOk (scope : Scope) (y : Str) : Bool := scope.kind == .function && scope.names.lookup y == some .globalImplicit && !(y == ("__debug__" : Str))
section
variable {name : Str} {scope : Scope} {L f : Addr} {cd : Value} {m : Str → Option Value} {l' : Led} {K : Frag}
theorem r_loc {x : Str} {pos : Pos} {v : Value} {Q : Value → Shared → Prop} (S : St b s l) (G : (L, fr m) ∈ l) (hv : m x = some v) (hk : locOk scope x = true) (h : Q v s) : wpAny M A (eval (.Name x pos) (envOf name scope L f cd)) Q E s := by
  unfold locOk at hk
  simp only [Bool.and_eq_true, beq_iff_eq, Bool.not_eq_true'] at hk
  exact r_name S G hv hk.1.1 hk.1.2 hk.2 h
theorem r_ldn {x : Str} {v : Value} {Q : Value → Shared → Prop} (S : St b s l) (G : (L, fr m) ∈ l) (hv : m x = some v) (hk : locOk scope x = true) (h : Q v s) : wpAny M A (loadName (envOf name scope L f cd) x) Q E s := by
  unfold locOk at hk
  simp only [Bool.and_eq_true, beq_iff_eq, Bool.not_eq_true'] at hk
  exact wpAny_loadName_local hk.1.1 hk.1.2 (ns_of_fr (S.get G)) hv h
theorem r_stn {x : Str} {v : Value} {Q : Unit → Shared → Prop} (S : St b s l) (D : Del l L (fr m) l') (hk : locOk scope x = true) (h : ∀ s', St b s' ((L, fr (up m x v)) :: l') → Q () s') : wpAny M A (storeName (envOf name scope L f cd) x v) Q E s := by
  unfold locOk at hk
  simp only [Bool.and_eq_true, beq_iff_eq, Bool.not_eq_true'] at hk
  exact r_store S D hk.1.1 hk.1.2 h
theorem r_glo {y : Str} {pos : Pos} {v : Value} {Q : Value → Shared → Prop} (X : Wd K b) (S : St b s l) (e : nsIn K mainGlobals y = some (some v)) (hk : globOk scope y = true) (h : Q v s) : wpAny M A (eval (.Name y pos) (envOf name scope L f cd)) Q E s := by
  unfold globOk at hk
  simp only [Bool.and_eq_true, beq_iff_eq, Bool.not_eq_true'] at hk
  exact r_glob X S e hk.1.1 hk.1.2 hk.2 h
theorem r_blt {y : Str} {pos : Pos} {v : Value} {Q : Value → Shared → Prop} (X : Wd K b) (S : St b s l) (e : nsIn K mainGlobals y = some none) (hv : bootBuiltins y = some v) (hn : y ≠ "__name__") (hk : globOk scope y = true) (h : Q v s) : wpAny M A (eval (.Name y pos) (envOf name scope L f cd)) Q E s := by
  unfold globOk at hk
  simp only [Bool.and_eq_true, beq_iff_eq, Bool.not_eq_true'] at hk
  exact r_bltn X S e hv hn hk.1.1 hk.1.2 hk.2 h
end
theorem r_spliced0 {pos : Pos} {Q : List Value → Shared → Prop} (h : Q [] s) : wpAny M A (spliced (backTo pos (starEach [] env))) Q E s := Calls.spliced_nil h
theorem r_attrN {x attr : Str} {xp pos : Pos} {Q : Value → Shared → Prop} (h : wpAny M A (eval (.Name x xp) env) (fun o s₁ => wpAny M A (getAttr o attr true) Q E s₁) E s) :
    wpAny M A (eval (.Attribute (.Name x xp) attr pos) env) Q E s := Attribute_Name_ h
noncomputable def lst (vs : List Value) : Cell := fun o => ∃ n, o = ⟨.type "list", none, .seq vs.toArray n, #[]⟩
theorem r_newTup {vs : List Value} {Q : Value → Shared → Prop} (S : St b s l) (hsz : Nat.ble vs.length 1000 = true) (h : ∀ a s', St b s' ((a, tup vs) :: l) → Q (.ref a) s') : wpAny M A (newTuple vs) Q E s :=
  wpAny_newObj_type (h s.heap.objs.size { s with heap := s.heap.push { cls := .type "tuple", data := .seq vs.toArray } } (S.push rfl ⟨rfl, 0, rfl⟩)) (by show vs.toArray.size ≤ sizeLine; rw [List.size_toArray, sizeLine_eq]; have := Nat.le_of_ble_eq_true hsz; omega)
theorem r_newList {vs : List Value} {Q : Value → Shared → Prop} (S : St b s l) (hsz : Nat.ble vs.length 1000 = true) (h : ∀ a s', St b s' ((a, lst vs) :: l) → Q (.ref a) s') : wpAny M A (newList vs) Q E s :=
  wpAny_newObj_type (h s.heap.objs.size { s with heap := s.heap.push { cls := .type "list", data := .seq vs.toArray } } (S.push rfl ⟨0, rfl⟩)) (by show vs.toArray.size ≤ sizeLine; rw [List.size_toArray, sizeLine_eq]; have := Nat.le_of_ble_eq_true hsz; omega)
noncomputable def uncur (g : Value → List Value → Shared → Prop) (fx : Value × List Value) (s : Shared) : Prop := g fx.1 fx.2 s
theorem MethodCall' {o : Expr} {y : Str} {apos pos : Pos} {args : List Expr} {pl : Sem Bool} {Q : Value → Shared → Prop}
    (h : wpAny M A (eval o env) (fun ov s₁ => wpAny M A (getMethod ov y pl) (uncur fun f first s₂ => wpAny M A (callWith pos f first (backTo pos (starEach args env)) []) Q E s₂) E s₁) E s)
    (he : eval (.Call (.Attribute o y apos) args [] pos) env = (do
      let ov ← eval o env
      standAt apos.atName
      let (f, first) ← holding [ov] (getMethod ov y pl)
      callWith pos f first (backTo pos (starEach args env)) [])) :
    wpAny M A (eval (.Call (.Attribute o y apos) args [] pos) env) Q E s := MethodCall_ h he
theorem r_part_some {e : Expr} {Q : Value → Shared → Prop} (h : wpAny M A (eval e env) Q E s) : wpAny M A (evalPart (some e) env) Q E s := h
theorem r_part_none {Q : Value → Shared → Prop} (h : Q .none s) : wpAny M A (evalPart none env) Q E s := wpAny_pure h
theorem r_callW0 {K : Frag} {pos : Pos} {f : Value} {first : List Value} {Q : Value → Shared → Prop} (X : Wd K b) (S : St b s l) (hk : keepIn K f = true)
    (h : wpAny M A (call f (first ++ [])) Q E s) : wpAny M A (callWith pos f first (backTo pos (starEach [] env)) []) Q E s := callWith_K0 (X.inS S) hk h
theorem r_callW1 {K : Frag} {pos : Pos} {f : Value} {first : List Value} {e : Expr} {rest : List Expr} {Q : Value → Shared → Prop} (X : Wd K b) (hk : keepIn K f = true)
    (h : wpAny M A (spliced (backTo pos (starEach (e :: rest) env))) (fun vs s₁ => K.In s₁.heap ∧ wpAny M A (call f (first ++ vs)) Q E s₁) E s)
    (he : starEach (e :: rest) env = (false, eval e env) :: starEach rest env := by rfl) (hplain : (backTo pos (starEach rest env)).any (·.1) = false := by rfl) :
    wpAny M A (callWith pos f first (backTo pos (starEach (e :: rest) env)) []) Q E s := callWith_K X.inK hk h he hplain
theorem r_callB0 {pos : Pos} {id : String} {first : List Value} {Q : Value → Shared → Prop} (h : wpAny M A (call (.builtin id) first) Q E s) : wpAny M A (callWith pos (.builtin id) first (backTo pos (starEach [] env)) []) Q E s :=
  Calls.callWith_builtin rfl (evalArgs_nil3 (by show wpAny M A (call (.builtin id) (first ++ [])) Q E s; rw [List.append_nil]; exact h))
theorem r_callB1' {pos : Pos} {id : String} {first : List Value} {e : Expr} {rest : List Expr} {Q : Value → Shared → Prop}
    (h : wpAny M A (spliced (backTo pos (starEach (e :: rest) env))) (fun vs s₁ => wpAny M A (call (.builtin id) (first ++ vs)) Q E s₁) E s)
    (he : starEach (e :: rest) env = (false, eval e env) :: starEach rest env) (hplain : (backTo pos (starEach rest env)).any (·.1) = false) :
    wpAny M A (callWith pos (.builtin id) first (backTo pos (starEach (e :: rest) env)) []) Q E s := by
  rw [he] at h ⊢
  exact Calls.callWith_builtin (by show (false || (backTo pos (starEach rest env)).any (·.1)) = false; rw [hplain]; rfl) (Calls.evalArgs_plain h)
theorem r_callB1 {pos : Pos} {id : String} {e : Expr} {rest : List Expr} {Q : Value → Shared → Prop}
    (h : wpAny M A (spliced (backTo pos (starEach (e :: rest) env))) (fun vs s₁ => wpAny M A (call (.builtin id) vs) Q E s₁) E s)
    (he : starEach (e :: rest) env = (false, eval e env) :: starEach rest env) (hplain : (backTo pos (starEach rest env)).any (·.1) = false) :
    wpAny M A (callWith pos (.builtin id) [] (backTo pos (starEach (e :: rest) env)) []) Q E s := r_callB1' h he hplain
theorem r_callB2 {pos : Pos} {id : String} {o : Value} {e : Expr} {rest : List Expr} {Q : Value → Shared → Prop}
    (h : wpAny M A (spliced (backTo pos (starEach (e :: rest) env))) (fun vs s₁ => wpAny M A (call (.builtin id) (o :: vs)) Q E s₁) E s)
    (he : starEach (e :: rest) env = (false, eval e env) :: starEach rest env) (hplain : (backTo pos (starEach rest env)).any (·.1) = false) :
    wpAny M A (callWith pos (.builtin id) [o] (backTo pos (starEach (e :: rest) env)) []) Q E s := r_callB1' h he hplain
theorem r_callT1 {pos : Pos} {T : String} {e : Expr} {rest : List Expr} {Q : Value → Shared → Prop}
    (h : wpAny M A (spliced (backTo pos (starEach (e :: rest) env))) (fun vs s₁ => wpAny M A (call (.type T) vs) Q E s₁) E s)
    (he : starEach (e :: rest) env = (false, eval e env) :: starEach rest env) (hplain : (backTo pos (starEach rest env)).any (·.1) = false) :
    wpAny M A (callWith pos (.type T) [] (backTo pos (starEach (e :: rest) env)) []) Q E s := PyProof.Rows.callWith_type1 h he hplain
theorem r_getattrS {K : Frag} {C x dx : Addr} {n : Nat} {m : Str → Option Value} {y : Str} {v : Value} {ex : Bool} {Q : Value → Shared → Prop} (X : Wd K b) (S : St b s l) (G1 : (x, inst C dx) ∈ l) (G2 : ∃ o, s.heap.get? dx = some o ∧ ids n m o) (hok : getOk K C y = true) (hv : m y = some v) (hh : handedIn v = true)
    (h : Q v (Tk s)) : wpAny (model prog w) A (getAttr (.ref x) y ex) Q E s := by
  obtain ⟨o, ho, e⟩ := S.get G1
  obtain ⟨od, hod, q⟩ := G2
  cases e
  unfold getOk at hok
  simp only [Bool.and_eq_true] at hok
  obtain ⟨⟨h1, h2⟩, h3⟩ := hok
  split at h3
  · rename_i a ha
    exact get_value (X.inS S) (⟨ho, rfl, rfl, hod⟩ : InstAt s.heap x (instObj C dx) C (some od)) (plainGet_of h1).1 (findObj_own h2 ha h3 (by rw [lookIn_ids q, hv])) hh h
  · cases h3
theorem r_getattr' {K : Frag} {C x dx : Addr} {n : Nat} {m : Str → Option Value} {y : Str} {v : Value} {ex : Bool} {Q : Value → Shared → Prop} (X : Wd K b) (S : St b s l) (G1 : (x, inst C dx) ∈ l) (G2 : ∃ o, s.heap.get? dx = some o ∧ ids n m o) (hok : getOk K C y = true) (hv : m y = some v) (hh : handedIn v = true)
    (h : ∀ s', St b s' l → Q v s') : wpAny (model prog w) A (getAttr (.ref x) y ex) Q E s := r_getattrS X S G1 G2 hok hv hh (h _ S)
/-- the token that lies under a name -/
noncomputable def tkOf (h : Heap) (dx : Addr) (y : Str) : Tok := match (h.get? dx).bind (lookIn y) with
  | some (some (.int _ t)) => t
  | some (some (.str _ t)) => t
  | _ => 0
theorem tkOf_int {h : Heap} {dx : Addr} {n : Nat} {m : Str → Option Value} {y : Str} {i : Int} {t : Tok} (G2 : ∃ o, h.get? dx = some o ∧ ids n m o) (e : m y = some (.int i t)) : tkOf h dx y = t := by
  obtain ⟨o, ho, q⟩ := G2
  unfold tkOf; rw [ho, Option.bind_some, lookIn_ids q, e]
theorem tkOf_str {h : Heap} {dx : Addr} {n : Nat} {m : Str → Option Value} {y : Str} {x : Str} {t : Tok} (G2 : ∃ o, h.get? dx = some o ∧ ids n m o) (e : m y = some (.str x t)) : tkOf h dx y = t := by
  obtain ⟨o, ho, q⟩ := G2
  unfold tkOf; rw [ho, Option.bind_some, lookIn_ids q, e]

theorem st_push : KeptByPush (fun s => St b s l) := fun _ _ _ x => x.keeps fun _ _ e => Heap.get?_push_of_some _ e
theorem cast_add {x y : Int} {i j : Nat} (hx : x = (i : Int)) (hy : y = (j : Int)) : x + y = ((i + j : Nat) : Int) := by rw [hx, hy]; rfl
theorem cast_one : (1 : Int) = ((1 : Nat) : Int) := rfl
theorem cast_two : (2 : Int) = ((2 : Nat) : Int) := rfl
theorem cast_zero : (0 : Int) = ((0 : Nat) : Int) := rfl
theorem ltg_str {base : Expr} {x : Str} {t : Tok} (r : Value) : letTemporaryGo base (.str x t) r = pure () := by cases base <;> rfl
/-- t[i:j], the slice laid just before -/
theorem r_slice {value : Expr} {lo up : Option Expr} {p : Pos} {l₀ : List Nat} {t : Tok} {x y : Int} {i j : Nat} {ui uj : Tok} {Q : Value → Shared → Prop} (S : St b s l) (hx : x = (i : Int)) (hy : y = (j : Int)) (hij : i ≤ j) (hsz : l₀.length ≤ 1048576)
    (h : ∀ u s', St b s' l → Q (.str (tx ((l₀.drop i).take (j - i))) u) s') :
    wpAny (model prog w) A (subscriptTail value (.Slice lo up none p) (.str (tx l₀) t) (.ref s.heap.objs.size)) Q E { s with heap := s.heap.push { cls := .type "slice", data := .fields #[.int x ui, .int y uj, .none] } } := by
  subst hx hy
  refine tail_of_ItemOn (SBG.sliceItem_ss st_push S (fun s' t' F => ?_) (by rw [tx_len, sizeLine_eq]; omega)) (by with_unfolding_all rfl) ltg_str
  rw [slice_ss _ _ _ hij]
  exact h t' s' F
theorem r_slice_n {value : Expr} {lo up : Option Expr} {p : Pos} {l₀ : List Nat} {t : Tok} {x y : Int} {i n : Nat} {ui uj : Tok} {Q : Value → Shared → Prop} (S : St b s l) (hx : x = (i : Int)) (hy : y = ((i + n : Nat) : Int)) (hsz : l₀.length ≤ 1048576)
    (h : ∀ u s', St b s' l → Q (.str (tx ((l₀.drop i).take n)) u) s') :
    wpAny (model prog w) A (subscriptTail value (.Slice lo up none p) (.str (tx l₀) t) (.ref s.heap.objs.size)) Q E { s with heap := s.heap.push { cls := .type "slice", data := .fields #[.int x ui, .int y uj, .none] } } :=
  r_slice S hx hy (Nat.le_add_right _ _) hsz (by rw [Nat.add_sub_cancel_left]; exact h)
theorem r_callp {K : Frag} {name qual : Str} {params : Arguments} {body : List Stmt} {scope : Scope} {dV kV doc pm cdv ct oc : Value} {an od : Option Addr} {osl : Array (Option Value)} {f : Addr} {pos : List Value} {Q : Value → Shared → Prop}
    (X : Wd K b) (S : St b s l) (ho : K.lookup f = some ⟨oc, od, .func (fnOf name qual params body scope dV kV doc pm an cdv ct), osl⟩) (hcd : codeIn K cdv qual = true) (hroom : A.depth < recursionLimit)
    (hbind : bindArgs (fnOf name qual params body scope dV kV doc pm an cdv ct) ⟨pos, []⟩ = pure ((params.args.map (·.arg)).zip pos)) (hloc : (((params.args.map (·.arg)).zip pos).all fun x => decide (scope.names.lookup x.1 = some .local)) = true) (hcell : scope.names.all (fun x => x.2 != .cell) = true)
    (hco : scope.isCoroutine = false) (hgen : scope.isGenerator = false) (hk : scope.kind = .function)
    (h : ∀ s' L, St b s' ((L, fr (fun y => ((params.args.map (·.arg)).zip pos).reverse.lookup y)) :: l) →
      wpAny (model prog w) (A.deeper (envOf qual scope L f cdv)) (execs body (envOf qual scope L f cdv))
        (RQ Q) (LV (model prog w) A (envOf qual scope L f cdv) E) s') :
    wpAny (model prog w) A (call (.ref f) pos []) Q E s :=
  r_call X S ho hcd hroom (BindsTo.of_eq hbind) (locs hloc) (fun x hx => by simpa using List.all_eq_true.mp hcell x hx) hco hgen hk h
theorem r_calld {K : Frag} {name qual : Str} {params : Arguments} {body : List Stmt} {scope : Scope} {dV kV doc pm cdv ct oc : Value} {an od : Option Addr} {osl : Array (Option Value)} {f : Addr} {pos : List Value} {Q : Value → Shared → Prop}
    (X : Wd K b) (S : St b s l) (ho : K.lookup f = some ⟨oc, od, .func (fnOf name qual params body scope dV kV doc pm an cdv ct), osl⟩) (hcd : codeIn K cdv qual = true) (hroom : A.depth < recursionLimit)
    (hbind : BindsTo s (fnOf name qual params body scope dV kV doc pm an cdv ct) ⟨pos, []⟩ ((params.args.map (·.arg)).zip pos)) (hloc : (((params.args.map (·.arg)).zip pos).all fun x => decide (scope.names.lookup x.1 = some .local)) = true) (hcell : scope.names.all (fun x => x.2 != .cell) = true)
    (hco : scope.isCoroutine = false) (hgen : scope.isGenerator = false) (hk : scope.kind = .function)
    (h : ∀ s' L, St b s' ((L, fr (fun y => ((params.args.map (·.arg)).zip pos).reverse.lookup y)) :: l) →
      wpAny (model prog w) (A.deeper (envOf qual scope L f cdv)) (execs body (envOf qual scope L f cdv))
        (RQ Q) (LV (model prog w) A (envOf qual scope L f cdv) E) s') :
    wpAny (model prog w) A (call (.ref f) pos []) Q E s :=
  r_call X S ho hcd hroom hbind (locs hloc) (fun x hx => by simpa using List.all_eq_true.mp hcell x hx) hco hgen hk h
end

/-- room for d calls within calls -/
noncomputable def Room (A : Around) (d : Nat) : Prop := A.depth + d ≤ 900 ∧ A.units + 4 * d ≤ 9000
theorem Room.deep {A : Around} {d d' : Nat} {env : Env} (h : Room A d) (hd : d' + 1 ≤ d) : Room (A.deeper env) d' := by
  unfold Room at *
  have h1 : (A.deeper env).depth = A.depth + 1 := rfl
  have h2 : (A.deeper env).units = A.units + 3 := rfl
  rw [h1, h2]; omega
theorem Room.mono {A : Around} {d d' : Nat} (h : Room A d) (hd : d' ≤ d) : Room A d' := by unfold Room at *; omega
theorem Room.lim {A : Around} {d : Nat} (h : Room A (d + 1)) : A.depth < recursionLimit := by unfold Room at h; unfold recursionLimit; omega
theorem Room.un {A : Around} {d k : Nat} (h : Room A d) (hk : k ≤ 800) : A.units + k < cLine := by unfold Room at h; rw [cLine_is]; omega
theorem words_e_rules : True := by
 (k_with "len.e_rules0" => assumption)
 (k_with "cast.e_rules1" => first | with_reducible exact cast_one | with_reducible exact cast_two | with_reducible exact cast_zero | (with_reducible refine cast_add ?_ ?_ <;> k_extra "cast") | rfl)
 (k_with "mem.e_rules2" => first | with_reducible assumption | with_reducible exact List.mem_cons_self | (with_reducible refine List.mem_cons_of_mem _ ?_; k_extra "mem"))
 (k_with "del.e_rules3" => first
  | with_reducible assumption
  | with_reducible exact Del.head
  | (focus ((with_reducible refine' Del.tail ?_); (rotate_right 1); (· k_extra "del")))
  | fail "none")
 (k_with "nm.e_rules4" => first
  | with_reducible assumption
  | with_reducible exact up_self
  | (focus ((with_reducible refine' (up_ne ?_).trans ?_); (rotate_right 2); (· with_reducible decide); (k_extra "nm")))
  | rfl
  | fail "none")
 (k_with "sl.e_rules5" => first
  | (focus ((with_reducible refine' r_slice_n ?_ ?_ ?_ ?_ ?_); (rotate_right 5); (· with_reducible assumption); (rotate_left 2); (· with_reducible k_extra "len"); (rotate_right 2); (· k_extra "cast"); (· k_extra "cast"); (intro _ _ _)))
  | fail "none")
 (k_with "st.e_rules6" => first
  | ((with_reducible refine r_seq ?_); intro _ _)
  | with_reducible refine wpAny_execs_nil ?_
  | with_reducible refine wpAny_Return_some ?_
  | with_reducible refine wpAny_Return_none ?_
  | with_reducible refine wpAny_If ?_
  | with_reducible refine wpAny_AugAssign_AttributeAny ?_
  | with_reducible refine wpAny_AugAssign_Name ?_
  | with_reducible refine wpAny_Break ?_
  | with_reducible refine wpAny_Continue ?_
  | with_reducible refine wpAny_Pass ?_
  | (focus ((with_reducible refine' r_stn ?_ ?_ ?_ ?_); (rotate_right 4); (· with_reducible assumption); (· with_reducible k_extra "del"); (· kernel_rfl); (intro _ _)))
  | (focus ((with_reducible refine' r_ldn ?_ ?_ ?_ ?_ ?_); (rotate_right 5); (· with_reducible assumption); (· with_reducible k_extra "mem"); (· k_extra "nm"); (· kernel_rfl)))
  | (focus ((with_reducible refine @wpAny_Assign_Name _ _ _ _ _ _ _ _ _ _ ?_ ?_); (rotate_right 2); (rotate_left 1); (· kernel_rfl); (rotate_right 1)))
  | (focus ((with_reducible refine @plainObj_wpAny_Assign_Attribute _ _ _ _ _ _ _ _ _ _ _ ?_ ?_); (rotate_right 2); (rotate_left 1); (· kernel_rfl); (rotate_right 1)))
  | (focus ((with_reducible refine @wpAny_Expr _ _ _ _ _ _ _ _ ?_ ?_ ?_); (rotate_right 3); (rotate_left 1); (· kernel_rfl); (rotate_right 1); (rotate_left 1); (· kernel_rfl); (rotate_right 1)))
  | fail "none")
 (k_with "na.e_rules7" => first
  | (focus ((with_reducible refine' r_loc ?_ ?_ ?_ ?_ ?_); (rotate_right 5); (· with_reducible assumption); (· with_reducible k_extra "mem"); (rotate_left 1); (· kernel_rfl); (rotate_right 1); (· k_extra "nm")))
  | fail "none")
 (k_with "ev.e_rules8" => first
  | with_reducible refine r_int ?_
  | with_reducible refine r_str ?_
  | with_reducible refine Constant_none ?_
  | with_reducible refine Constant_bool ?_
  | ((with_reducible refine r_attrN ?_))
  | ((with_reducible show wpAny _ _ (eval (Expr.Attribute _ _ _) _) _ _ _); refine Attribute_any_ ?_)
  | with_reducible refine Subscript_ ?_
  | with_reducible refine wpAny_Slice ?_
  | with_reducible refine r_part_some ?_
  | with_reducible refine r_part_none ?_
  | with_reducible refine wpAny_BinOp ?_
  | (focus ((with_reducible refine @wpAny_Compare1 _ _ _ _ _ _ _ _ _ _ ?_ ?_); (rotate_right 2); (rotate_left 1); (· with_unfolding_all rfl); (rotate_right 1)))
  | with_reducible refine BoolOp_and ?_
  | with_reducible refine BoolOp_or ?_
  | with_reducible refine BoolOp_one ?_
  | with_reducible refine wpAny_UnaryOp ?_
  | with_reducible refine wpAny_IfExp ?_
  | with_reducible refine Tuple_ ?_
  | with_reducible refine List_ ?_
  | (focus ((with_reducible refine' MethodCall' ?_ ?_); (rotate_right 2); (rotate_left 1); (· rfl); (rotate_right 1)))
  | with_reducible refine Call_Name_ ?_
  | (focus ((with_reducible refine @wpAny_isTrue_Compare1 _ _ _ _ _ _ _ _ _ _ _ ?_ ?_); (rotate_right 2); (rotate_left 1); (· with_unfolding_all rfl); (rotate_right 1)))
  | with_reducible refine wpAny_isTrue_Not ?_
  | with_reducible refine isTrue_and ?_
  | with_reducible refine isTrue_or ?_
  | with_reducible refine isTrue_and_nil ?_
  | with_reducible refine isTrue_or_nil ?_
  | with_reducible refine isTrue_IfExp ?_
  | ((with_reducible show wpAny _ _ (isTrue _ _ _) _ _ _); refine isTrue_plain ?_)
  | fail "none")
 (k_with "cw.e_rules9" => first
  | with_reducible refine r_callB0 ?_
  | (focus ((with_reducible refine' r_callB1 ?_ ?_ ?_); (rotate_right 3); (rotate_left 1); (· rfl); (rotate_right 1); (rotate_left 1); (· rfl); (rotate_right 1)))
  | (focus ((with_reducible refine' r_callB2 ?_ ?_ ?_); (rotate_right 3); (rotate_left 1); (· rfl); (rotate_right 1); (rotate_left 1); (· rfl); (rotate_right 1)))
  | (focus ((with_reducible refine' r_callT1 ?_ ?_ ?_); (rotate_right 3); (rotate_left 1); (· rfl); (rotate_right 1); (rotate_left 1); (· rfl); (rotate_right 1)))
  | (focus ((with_reducible refine' r_callW0 ?_ ?_ ?_ ?_); (rotate_right 4); (· with_reducible assumption); (· with_reducible assumption); (· kernel_rfl)))
  | (focus ((with_reducible refine' r_callW1 ?_ ?_ ?_ ?_ ?_); (rotate_right 5); (· with_reducible assumption); (· kernel_rfl); (rotate_left 1); (· rfl); (rotate_right 1); (rotate_left 1); (· rfl); (rotate_right 1)))
  | (focus ((with_reducible refine' And.intro (Wd.inS ?_ ?_) ?_); (rotate_right 3); (· with_reducible assumption); (· with_reducible assumption)))
  | fail "none")
 (k_with "op.e_rules10" => first
  | with_reducible refine wpAny_truthy_bool ?_
  | with_reducible refine w_true ?_
  | with_reducible refine w_false ?_
  | with_reducible refine truthy_none ?_
  | with_reducible refine r_add ?_
  | with_reducible refine r_sub ?_
  | with_reducible refine not_of ?_
  | with_reducible refine r_iadd ?_
  | with_reducible refine lt_int ?_
  | with_reducible refine gt_int ?_
  | with_reducible refine eq_int ?_
  | with_reducible refine ne_int ?_
  | with_reducible refine r_eq_str ?_
  | with_reducible refine r_ne_str ?_
  | (focus ((with_reducible refine' r_newTup ?_ ?_ ?_); (rotate_right 3); (· with_reducible assumption); (· kernel_rfl); (intro _ _ _)))
  | (focus ((with_reducible refine' r_newList ?_ ?_ ?_); (rotate_right 3); (· with_reducible assumption); (· kernel_rfl); (intro _ _ _)))
  | with_reducible refine r_spliced0 ?_
  | (focus ((with_reducible refine r_spliced ?_ ?_); (rotate_right 2); (rotate_left 1); (· rfl); (rotate_right 1)))
  | fail "none")
 (k_with "w1.e_rules11" => first
  | ((with_reducible show wpAny _ _ (eval (Expr.Name _ _) _) _ _ _); k_extra "na")
  | ((with_reducible show wpAny _ _ (eval _ _) _ _ _); k_extra "ev")
  | ((with_reducible show wpAny _ _ (isTrue _ _ _) _ _ _); k_extra "ev")
  | ((with_reducible show wpAny _ _ (exec _ _) _ _ _); k_extra "st")
  | ((with_reducible show wpAny _ _ (execs _ _) _ _ _); k_extra "st")
  | ((with_reducible show wpAny _ _ (callWith _ _ _ _ _) _ _ _); k_extra "cw")
  | ((with_reducible show wpAny _ _ (call _ _) _ _ _); first | k_extra "ct" | k_extra "op")
  | ((with_reducible show wpAny _ _ (getAttr _ _ _) _ _ _); k_extra "sc")
  | ((with_reducible show wpAny _ _ (setAttr _ _ _) _ _ _); k_extra "sc")
  | ((with_reducible show wpAny _ _ (getMethod _ _ _) _ _ _); k_extra "x1")
  | ((with_reducible show wpAny _ _ (subscriptTail _ _ _ _) _ _ _); first | k_extra "sl" | k_extra "op")
  | k_extra "op"
  | k_extra "st"
  | k_extra "cw"
  | k_extra "ev"
  | (focus ((with_reducible refine' SeqQ.next ?_ _ ?_); (rotate_right 2); (· with_reducible assumption)))
  | (focus ((with_reducible refine' SeqQ.ret ?_ _ _ ?_); (rotate_right 2); (· with_reducible assumption)))
  | (focus ((with_reducible refine' LpQ.next ?_ _ ?_); (rotate_right 2); (· with_reducible assumption)))
  | (focus ((with_reducible refine' LpQ.ret ?_ _ _ ?_); (rotate_right 2); (· with_reducible assumption)))
  | with_reducible refine RQ.ret ?_
  | with_reducible refine RQ.next ?_
  | (focus ((with_reducible refine' SeqQ.brk ?_ _ ?_); (rotate_right 2); (· with_reducible assumption)))
  | (focus ((with_reducible refine' SeqQ.cont ?_ _ ?_); (rotate_right 2); (· with_reducible assumption)))
  | (focus ((with_reducible refine' LpQ.brk ?_ _ ?_); (rotate_right 2); (· with_reducible assumption)))
  | (focus ((with_reducible refine' LpQ.cont ?_ _ ?_); (rotate_right 2); (· with_reducible assumption)))
  | with_reducible refine WTurn.of ?_
  | with_reducible refine FTurn.of ?_
  | (focus ((with_reducible refine' LpQ.els ?_ _ ?_); (rotate_right 2); (· with_reducible assumption)))
  | with_reducible refine fun (R : Flow → Shared → Prop) (hR : CutQ _ _ _) => ?_
  | with_reducible refine fun (R : Flow → Shared → Prop) (hR : NxtQ _ _) => ?_
  | (focus ((with_reducible refine' NxtQ.next ?_ _ ?_); (rotate_right 2); (· with_reducible assumption)))
  | (focus ((with_reducible refine' CutQ.next ?_ _ ?_); (rotate_right 2); (· with_reducible assumption)))
  | (focus ((with_reducible refine' CutQ.ret ?_ _ _ ?_); (rotate_right 2); (· with_reducible assumption)))
  | (focus ((with_reducible refine' CutQ.brk ?_ _ ?_); (rotate_right 2); (· with_reducible assumption)))
  | (focus ((with_reducible refine' CutQ.cont ?_ _ ?_); (rotate_right 2); (· with_reducible assumption)))
  | fail "none")
 (k_with "w.e_rules12" => repeat k_extra "w1")
 (k_with "enter.e_rules13" => first
  | (focus ((refine' r_callp ?_ ?_ ?_ ?_ ?_ ?_ ?_ ?_ ?_ ?_ ?_ ?_); (rotate_right 12); (· assumption); (· assumption); (· exact rfl); (· kernel_rfl); (· exact Room.lim (by assumption)); (· kernel_rfl); (· kernel_rfl); (· kernel_rfl); (· kernel_rfl); (· kernel_rfl); (· kernel_rfl); (intro _ _ _)))
  | fail "none")
 (k_with "ext.e_rules14" => first
  | with_reducible exact Ext.all
  | (focus ((with_reducible refine' Ext.cons ?_ ?_); (rotate_right 2); (· k_extra "del"); (· k_extra "ext")))
  | exact Ext.nil
  | (with_reducible refine Ext.drop ?_; k_extra "ext")
  | fail "none")
 (k_with "st!.e_rules15" => first | assumption | exact StR.ext (by assumption) (by k_extra "ext"))
 trivial
local macro_rules
  | `(tactic| k_extra "len") => `(tactic| k_extra "len.e_rules0")
  | `(tactic| k_extra "cast") => `(tactic| k_extra "cast.e_rules1")
  | `(tactic| k_extra "mem") => `(tactic| k_extra "mem.e_rules2")
  | `(tactic| k_extra "del") => `(tactic| k_extra "del.e_rules3")
  | `(tactic| k_extra "nm") => `(tactic| k_extra "nm.e_rules4")
  | `(tactic| k_extra "sl") => `(tactic| k_extra "sl.e_rules5")
  | `(tactic| k_extra "st") => `(tactic| k_extra "st.e_rules6")
  | `(tactic| k_extra "na") => `(tactic| k_extra "na.e_rules7")
  | `(tactic| k_extra "ev") => `(tactic| k_extra "ev.e_rules8")
  | `(tactic| k_extra "cw") => `(tactic| k_extra "cw.e_rules9")
  | `(tactic| k_extra "op") => `(tactic| k_extra "op.e_rules10")
  | `(tactic| k_extra "w1") => `(tactic| k_extra "w1.e_rules11")
  | `(tactic| k_extra "w") => `(tactic| k_extra "w.e_rules12")
  | `(tactic| k_extra "enter") => `(tactic| k_extra "enter.e_rules13")
  | `(tactic| k_extra "ext") => `(tactic| k_extra "ext.e_rules14")
  | `(tactic| k_extra "st!") => `(tactic| k_extra "st!.e_rules15")
theorem lit_nl : (Str.ofString "\n").cps.toList = [10] := by decide +kernel
theorem lit_nil : (Str.ofString "").cps.toList = [] := by decide +kernel
theorem lit_block : (Str.ofString "block").cps.toList = [98, 108, 111, 99, 107] := by decide +kernel
/-- a list of texts -/
noncomputable def txs (ps : List (List Nat × Tok)) : List Value := ps.map fun p => .str (tx p.1) p.2
noncomputable def mk (ms : List (List Nat)) : Cell := fun o => ∃ ps : List (List Nat × Tok), ps.map (·.1) = ms ∧ lst (txs ps) o

theorem txs_len (ps : List (List Nat × Tok)) : (txs ps).length = ps.length := by simp [txs]

section
variable {prog : Program} {w : World} {M : Model} {A : Around} {E : Value → Shared → Prop} {b : Bs} {s : Shared} {l l' : Led} {env : Env} {a n : Addr} {vs : List Value} {ms : List (List Nat)}

theorem lst_at (S : St b s l) (G : (a, lst vs) ∈ l) : s.heap.IsList a vs.toArray :=
  let ⟨_, ho, n, e⟩ := S.get G; ⟨_, ho, by rw [e], n, by rw [e]⟩
theorem mk_at (S : St b s l) (G : (a, mk ms) ∈ l) : ∃ ps : List (List Nat × Tok), ps.map (·.1) = ms ∧ s.heap.IsList a (txs ps).toArray :=
  let ⟨_, ho, ps, h, n, e⟩ := S.get G; ⟨ps, h, _, ho, by rw [e], n, by rw [e]⟩
theorem tup_at (S : St b s l) (G : (a, tup vs) ∈ l) : s.heap.IsTuple a vs.toArray :=
  let ⟨_, ho, h1, h2⟩ := S.get G; ⟨_, ho, h1, h2⟩

theorem eq_nil_at {its : Array Value} {Q : Value → Shared → Prop} (h1 : s.heap.IsList a its) (h2 : s.heap.IsList n #[]) (hu : A.units < cLine) (h : Q (.bool (decide (its.size = 0))) s) : wpAny (model prog w) A (compareOp .Eq (.ref a) (.ref n)) Q E s := by
  by_cases e : its.size = 0
  · rw [decide_eq_true e] at h
    refine SeqAt.eq_listAt (e := fun _ => true) h1 h2 (by simpa using e) hu (fun j h1 h2 => absurd h2 (by simp)) ?_
    rw [e]; exact h
  · rw [decide_eq_false e] at h
    exact SeqAt.eq_list_lengthsAt h1 h2 (by simpa using e) hu h
theorem ne_nil_at {its : Array Value} {Q : Value → Shared → Prop} (h1 : s.heap.IsList a its) (h2 : s.heap.IsList n #[]) (hu : A.units < cLine) (h : Q (.bool (!decide (its.size = 0))) s) : wpAny (model prog w) A (compareOp .NotEq (.ref a) (.ref n)) Q E s := by
  by_cases e : its.size = 0
  · rw [decide_eq_true e] at h
    refine SeqAt.RcNeAt.lists (e := fun _ => true) h1 h2 (by simpa using e) hu (fun j h1 h2 => absurd h2 (by simp)) prog w E Q ?_
    rw [e]; exact h
  · rw [decide_eq_false e] at h
    exact SeqAt.RcNeAt.lists_lengths h1 h2 (by simpa using e) hu prog w E Q h
theorem Room.cl {d : Nat} (h : Room A d) : A.units < cLine := by have := h.un (k := 0) (by omega); omega
theorem len0 {α} (l : List α) : decide (l.length = 0) = decide (l = []) := by cases l <;> simp
theorem r_eq_nil {Q : Value → Shared → Prop} (S : St b s l) (G1 : (a, lst vs) ∈ l) (G2 : (n, lst []) ∈ l) (hu : A.units < cLine) (h : Q (.bool (decide (vs = []))) s) : wpAny (model prog w) A (compareOp .Eq (.ref a) (.ref n)) Q E s :=
  eq_nil_at (lst_at S G1) (lst_at S G2) hu (by rw [List.size_toArray, len0]; exact h)
theorem r_ne_nil {Q : Value → Shared → Prop} (S : St b s l) (G1 : (a, lst vs) ∈ l) (G2 : (n, lst []) ∈ l) (hu : A.units < cLine) (h : Q (.bool (!decide (vs = []))) s) : wpAny (model prog w) A (compareOp .NotEq (.ref a) (.ref n)) Q E s :=
  ne_nil_at (lst_at S G1) (lst_at S G2) hu (by rw [List.size_toArray, len0]; exact h)
theorem m_len0 {ps : List (List Nat × Tok)} (h : ps.map (·.1) = ms) : decide ((txs ps).toArray.size = 0) = decide (ms = []) := by
  subst h; rw [List.size_toArray, txs_len]; cases ps <;> simp
theorem m_eq_nil {Q : Value → Shared → Prop} (S : St b s l) (G1 : (a, mk ms) ∈ l) (G2 : (n, lst []) ∈ l) (hu : A.units < cLine) (h : Q (.bool (decide (ms = []))) s) : wpAny (model prog w) A (compareOp .Eq (.ref a) (.ref n)) Q E s :=
  let ⟨_, e, h1⟩ := mk_at S G1; eq_nil_at h1 (lst_at S G2) hu (by rw [m_len0 e]; exact h)
theorem m_ne_nil {Q : Value → Shared → Prop} (S : St b s l) (G1 : (a, mk ms) ∈ l) (G2 : (n, lst []) ∈ l) (hu : A.units < cLine) (h : Q (.bool (!decide (ms = []))) s) : wpAny (model prog w) A (compareOp .NotEq (.ref a) (.ref n)) Q E s :=
  let ⟨_, e, h1⟩ := mk_at S G1; ne_nil_at h1 (lst_at S G2) hu (by rw [m_len0 e]; exact h)

theorem last_at {its : List Value} {x : Value} {t : Tok} {Q : Value → Shared → Prop} (h1 : s.heap.IsList a (its ++ [x]).toArray) (h : Q x s) : wpAny (model prog w) A (getItem (.ref a) (.int (-1) t)) Q E s := by
  refine wpAny_getItem_list_neg (x := x) h1 (by decide) (by simp; omega) (by decide) ?_ h
  have : ((-1 : Int) + ((its ++ [x]).toArray.size : Nat)).toNat = its.length := by simp; omega
  rw [this]; simp
theorem tl_list {value slice : Expr} {i : Value} {Q : Value → Shared → Prop} (hl : ∃ its, s.heap.IsList a its) (h : wpAny (model prog w) A (getItem (.ref a) i) Q E s)
    (hs : subscripted slice false (.ref a) i = operate [.ref a, i] (getItem (.ref a) i)) : wpAny (model prog w) A (subscriptTail value slice (.ref a) i) Q E s :=
  let ⟨_, h1⟩ := hl; tail_any h1.typeIs slot_list_getitem.lookup h hs
theorem txs_split {ps : List (List Nat × Tok)} {m : List (List Nat)} {k : List Nat} (h : ps.map (·.1) = m ++ [k]) : ∃ ps' t, ps = ps' ++ [(k, t)] ∧ ps'.map (·.1) = m := by
  obtain ⟨a, c, e, h1, h2⟩ := List.map_eq_append_iff.mp h
  obtain ⟨x, r, rfl, hx, hr⟩ := List.map_eq_cons_iff.mp h2
  cases List.map_eq_nil_iff.mp hr
  exact ⟨a, x.2, by rw [e, ← hx], h1⟩
/-- the last mark -/
theorem m_last {value slice : Expr} {i : Int} {t : Tok} {k : List Nat} {m : List (List Nat)} {Q : Value → Shared → Prop} (S : St b s l) (G1 : (a, mk ms) ∈ l) (hm : ms = m ++ [k]) (hi : i = -1) (h : ∀ u, Q (.str (tx k) u) s)
    (hs : subscripted slice false (.ref a) (.int i t) = operate [.ref a, .int i t] (getItem (.ref a) (.int i t))) :
    wpAny (model prog w) A (subscriptTail value slice (.ref a) (.int i t)) Q E s := by
  subst hm hi
  obtain ⟨ps, e, h1⟩ := mk_at S G1
  obtain ⟨ps', u, rfl, _⟩ := txs_split e
  refine tl_list ⟨_, h1⟩ (last_at (its := txs ps') (x := .str (tx k) u) ?_ (h u)) hs
  simpa [txs] using h1
theorem r_last {value slice : Expr} {i : Int} {t : Tok} {x : Value} {us : List Value} {Q : Value → Shared → Prop} (S : St b s l) (G1 : (a, lst vs) ∈ l) (hm : vs = us ++ [x]) (hi : i = -1) (h : Q x s)
    (hs : subscripted slice false (.ref a) (.int i t) = operate [.ref a, .int i t] (getItem (.ref a) (.int i t))) :
    wpAny (model prog w) A (subscriptTail value slice (.ref a) (.int i t)) Q E s := by
  subst hm hi
  exact tl_list ⟨_, lst_at S G1⟩ (last_at (lst_at S G1) h) hs

theorem r_meth_append {pl : Sem Bool} {Q : Value → List Value → Shared → Prop} (S : St b s l) (G : (a, lst vs) ∈ l) (h : Q (.builtin "list.append") [.ref a] s) : wpAny M A (getMethod (.ref a) "append" pl) (uncur Q) E s := by
  obtain ⟨o, ho, k, rfl⟩ := S.get G
  exact Calls.getMethod_list_append ho rfl rfl h
theorem m_meth_append {pl : Sem Bool} {Q : Value → List Value → Shared → Prop} (S : St b s l) (G : (a, mk ms) ∈ l) (h : Q (.builtin "list.append") [.ref a] s) : wpAny M A (getMethod (.ref a) "append" pl) (uncur Q) E s := by
  obtain ⟨o, ho, _, _, k, rfl⟩ := S.get G
  exact Calls.getMethod_list_append ho rfl rfl h
theorem m_meth_pop {pl : Sem Bool} {Q : Value → List Value → Shared → Prop} (S : St b s l) (G : (a, mk ms) ∈ l) (h : Q (.builtin "list.pop") [.ref a] s) : wpAny (model prog w) A (getMethod (.ref a) "pop" pl) (uncur Q) E s := by
  obtain ⟨o, ho, ps, _, k, rfl⟩ := S.get G
  exact getMethod_list_of (items := (txs ps).toArray) PySem.F.slot_list_pop PySem.F.type_list_pop ⟨_, ho, rfl, k, rfl⟩ ⟨_, ho, rfl⟩ h

theorem erase_last {α} (l : List α) (x : α) : ((l ++ [x]).toArray.eraseIdxIfInBounds ((l ++ [x]).toArray.size - 1)) = l.toArray := by
  simp [List.eraseIdx_append_of_length_le]
theorem r_append {v : Value} {Q : Value → Shared → Prop} (S : St b s l) (D : Del l a (lst vs) l') (hz : vs.length ≤ 1048576) (h : ∀ s', St b s' ((a, lst (vs ++ [v])) :: l') → Q .none s') : wpAny (model prog w) A (call (.builtin "list.append") [.ref a, v]) Q E s := by
  have S' := S.del D
  obtain ⟨o, ho, k, rfl⟩ := S'.head
  refine append_at (hsz := by rw [List.size_toArray, sizeLine_eq]; omega) ho fun h' hs ho' => h _ ?_
  exact S'.set hs ho' ⟨k + 1, by simp⟩
theorem m_append {k : List Nat} {t : Tok} {x : Str} {Q : Value → Shared → Prop} (S : St b s l) (D : Del l a (mk ms) l') (hz : ms.length ≤ 1048576) (hx : x.cps.toList = k) (h : ∀ s', St b s' ((a, mk (ms ++ [k])) :: l') → Q .none s') : wpAny (model prog w) A (call (.builtin "list.append") [.ref a, .str x t]) Q E s := by
  subst hx
  have S' := S.del D
  obtain ⟨o, ho, ps, e, n, rfl⟩ := S'.head
  subst e
  refine append_at (hsz := by rw [List.size_toArray, txs_len, sizeLine_eq]; simp at hz; omega) ho fun h' hs ho' => h _ ?_
  exact S'.set hs ho' ⟨ps ++ [(x.cps.toList, t)], by simp, n + 1, by simp [txs]⟩
theorem m_pop {k : List Nat} {m : List (List Nat)} {Q : Value → Shared → Prop} (S : St b s l) (D : Del l a (mk ms) l') (hm : ms = m ++ [k]) (hz : ms.length ≤ 1048576) (h : ∀ t s', St b s' ((a, mk m) :: l') → Q (.str (tx k) t) s') : wpAny (model prog w) A (call (.builtin "list.pop") [.ref a]) Q E s := by
  subst hm
  have S' := S.del D
  obtain ⟨o, ho, ps, e, n, rfl⟩ := S'.head
  obtain ⟨ps', t, rfl, rfl⟩ := txs_split e
  have hsz : (txs (ps' ++ [(k, t)])).toArray.size ≤ sizeLine := by rw [List.size_toArray, txs_len, sizeLine_eq]; simp at hz ⊢; omega
  refine call_meets PySem.F.slot_list_pop ⟨_, ho, rfl⟩ PySem.F.entry_list_pop (PySem.F.args_list_pop_1 _) (PySem.MeetsSeq.list_pop_last a _ n (.str (tx k) t) (by simp [txs]) hsz) ⟨ho, h _ _ ?_⟩
  have e2 : Obj.mapSeq (fun xs => xs.eraseIdxIfInBounds ((txs (ps' ++ [(k, t)])).toArray.size - 1)) ⟨.type "list", none, .seq (txs (ps' ++ [(k, t)])).toArray n, #[]⟩
      = ⟨.type "list", none, .seq (txs ps').toArray (if (txs ps').toArray.size == (txs (ps' ++ [(k, t)])).toArray.size then n else n + 1), #[]⟩ := by
    have e3 : txs (ps' ++ [(k, t)]) = txs ps' ++ [.str (tx k) t] := by simp [txs]
    rw [e3]
    unfold Obj.mapSeq
    simp only [erase_last]
  exact S'.upd (P' := mk (ps'.map (·.1))) ho (by rw [e2]; rfl) ⟨ps', rfl, _, e2⟩
end
noncomputable def strOf : Value → List Nat
  | .str y _ => y.cps.toList
  | _ => []
noncomputable def isStrV : Value → Bool
  | .str _ _ => true
  | _ => false
/-- l has at most one sign: is it in hay? -/
noncomputable def isIn (l hay : List Nat) : Bool := l.all fun c => decide (c ∈ hay)
theorem take1 (l : List Nat) : l.take 1 = [] ∨ ∃ a, l.take 1 = [a] := by cases l <;> simp

section
variable {prog : Program} {w : World} {M : Model} {A : Around} {E : Value → Shared → Prop} {b : Bs} {s : Shared} {l l' : Led} {env : Env} {a n : Addr} {vs : List Value} {x y : Str} {t u : Tok}

theorem in_tup_any (vs : List Value) (x : List Nat) : (vs.toArray.any fun v => strOf v == x) = decide (x ∈ vs.map strOf) := by
  rw [Bool.eq_iff_iff]
  simp
theorem in_tup_at {Q : Value → Shared → Prop} (h : s.heap.IsTuple a vs.toArray) (ha : vs.all isStrV = true) (hq : Q (.bool (decide (x.cps.toList ∈ vs.map strOf))) s) : wpAny (model prog w) A (compareOp .In (.str x t) (.ref a)) Q E s := by
  refine SeqAt.in_tupleAt (e := fun v => strOf v == x.cps.toList) h (fun v hv => ?_) (by rw [in_tup_any]; exact hq)
  have := List.all_eq_true.mp ha v (by simpa using hv)
  cases v <;> first | cases this | skip
  exact (SeqRoads2.EqGives.str _ _ _ _).at _ _
theorem notin_tup_at {Q : Value → Shared → Prop} (h : s.heap.IsTuple a vs.toArray) (ha : vs.all isStrV = true) (hq : Q (.bool (!decide (x.cps.toList ∈ vs.map strOf))) s) : wpAny (model prog w) A (compareOp .NotIn (.str x t) (.ref a)) Q E s := by
  refine SeqAt.notIn_tupleAt (e := fun v => strOf v == x.cps.toList) h (fun v hv => ?_) (by rw [in_tup_any]; exact hq)
  have := List.all_eq_true.mp ha v (by simpa using hv)
  cases v <;> first | cases this | skip
  exact (SeqRoads2.EqGives.str _ _ _ _).at _ _
theorem r_in_tup {Q : Value → Shared → Prop} (S : St b s l) (G : (a, tup vs) ∈ l) (ha : vs.all isStrV = true) (hq : Q (.bool (decide (x.cps.toList ∈ vs.map strOf))) s) : wpAny (model prog w) A (compareOp .In (.str x t) (.ref a)) Q E s := in_tup_at (tup_at S G) ha hq
theorem r_notin_tup {Q : Value → Shared → Prop} (S : St b s l) (G : (a, tup vs) ∈ l) (ha : vs.all isStrV = true) (hq : Q (.bool (!decide (x.cps.toList ∈ vs.map strOf))) s) : wpAny (model prog w) A (compareOp .NotIn (.str x t) (.ref a)) Q E s := notin_tup_at (tup_at S G) ha hq

theorem found_isIn (l : List Nat) (h : l.length ≤ 1) : (!(Builtin.Str.occurrences x (tx l) 0 x.length 1).isEmpty) = isIn l x.cps.toList := by
  match l, h with
  | [], _ =>
    rw [Bool.eq_iff_iff, StrLaws.found_iff]
    refine ⟨fun _ => rfl, fun _ => ⟨0, by simp [Str.length], ?_⟩⟩
    rw [StrLaws.subAt_eq]; simp [Str.length]
  | [c], _ => rw [show tx [c] = ⟨#[c]⟩ from rfl, StrLaws.found_one]; simp [isIn]
theorem r_in_str {l₁ : List Nat} {Q : Value → Shared → Prop} (hl : l₁.length ≤ 1) (h : Q (.bool (isIn l₁ x.cps.toList)) s) : wpAny (model prog w) A (compareOp .In (.str (tx l₁) u) (.str x t)) Q E s :=
  PyProof.Rows.in_str (by rw [found_isIn _ hl]; exact h)
/-- the place of y in x -/
noncomputable def occ (x y : Str) : List Nat := Builtin.Str.occurrences x y 0 x.length 1
theorem r_in_any {Q : Value → Shared → Prop} (h : Q (.bool !(occ x y).isEmpty) s) : wpAny (model prog w) A (compareOp .In (.str y u) (.str x t)) Q E s := PyProof.Rows.in_str h

theorem r_m_isalpha {pl : Sem Bool} {Q : Value → List Value → Shared → Prop} (h : Q (.builtin "str.isalpha") [.str x t] s) : wpAny M A (getMethod (.str x t) "isalpha" pl) (uncur Q) E s := by
  have h2 : uncur Q (.builtin "str.isalpha", [.str x t]) s := h
  with_reducible exact GM.isalpha h2
theorem r_m_lower {pl : Sem Bool} {Q : Value → List Value → Shared → Prop} (h : Q (.builtin "str.lower") [.str x t] s) : wpAny M A (getMethod (.str x t) "lower" pl) (uncur Q) E s := by
  have h2 : uncur Q (.builtin "str.lower", [.str x t]) s := h
  with_reducible exact GM.lower h2
theorem r_m_index {pl : Sem Bool} {Q : Value → List Value → Shared → Prop} (h : Q (.builtin "str.index") [.str x t] s) : wpAny M A (getMethod (.str x t) "index" pl) (uncur Q) E s := by
  have h2 : uncur Q (.builtin "str.index", [.str x t]) s := h
  with_reducible exact GM.index h2
theorem r_m_startswith {pl : Sem Bool} {Q : Value → List Value → Shared → Prop} (h : Q (.builtin "str.startswith") [.str x t] s) : wpAny M A (getMethod (.str x t) "startswith" pl) (uncur Q) E s := by
  have h2 : uncur Q (.builtin "str.startswith", [.str x t]) s := h
  with_reducible exact GM.startswith h2
theorem r_isalpha {Q : Value → Shared → Prop} (h : Q (.bool (Txt.isalpha x)) s) : wpAny (model prog w) A (call (.builtin "str.isalpha") [.str x t]) Q E s := SC.isalpha h
theorem r_lower {Q : Value → Shared → Prop} (S : St b s l) (hz : x.length ≤ 5592405) (h : ∀ t s', St b s' l → Q (.str (Txt.lower x) t) s') : wpAny (model prog w) A (call (.builtin "str.lower") [.str x t]) Q E s := SCL.lower hz fun _ => h _ _ S
theorem r_index {Q : Value → Shared → Prop} {i : Nat} {rest : List Nat} (S : St b s l) (ho : occ x y = i :: rest) (h : ∀ t s', St b s' l → Q (.int i t) s') : wpAny (model prog w) A (call (.builtin "str.index") [.str x t, .str y u]) Q E s := SC.index ho (h _ _ S)
theorem sw_from (l₁ l₂ : List Nat) (i : Nat) (h0 : l₂ ≠ []) : (decide (i + l₂.length ≤ l₁.length) && Builtin.Str.subAt (tx l₁) (tx l₂) i) = decide ((l₁.drop i).take l₂.length = l₂) := by
  rw [Bool.eq_iff_iff, StrLaws.subAt_eq]
  simp only [Bool.and_eq_true, decide_eq_true_eq, beq_iff_eq, tx_len]
  constructor
  · intro h; exact h.2
  · intro h
    refine ⟨?_, h⟩
    have h1 := congrArg List.length h
    simp only [List.length_take, List.length_drop] at h1
    have h2 : 0 < l₂.length := List.length_pos_iff.mpr h0
    omega
theorem r_sw_from {l₁ : List Nat} {i : Int} {k : Nat} {v : Tok} {Q : Value → Shared → Prop} (hi : i = (k : Int)) (h0 : y.cps.toList ≠ []) (h : Q (.bool (decide ((l₁.drop k).take y.cps.toList.length = y.cps.toList))) s) :
    wpAny (model prog w) A (call (.builtin "str.startswith") [.str (tx l₁) t, .str y u, .int i v]) Q E s := by
  subst hi
  refine call_gives F.slot_str_startswith (typeIs_str _ _ _) F.entry_str_startswith (F.args_str_startswith_3 _ _ _) (gives_str_startswith_from (tx l₁) y k t u v) ?_
  have e : fromIndex (tx l₁).length (k : Int) = k := by
    unfold fromIndex
    rw [if_neg (by omega)]; omega
  have e4 : (decide (k + y.length ≤ (tx l₁).length) && Builtin.Str.subAt (tx l₁) y k) = decide ((l₁.drop k).take y.cps.toList.length = y.cps.toList) := by
    rw [← sw_from l₁ y.cps.toList k h0, tx_len]; simp [Str.length]
  show Q (.bool (decide (fromIndex (tx l₁).length (k : Int) + y.length ≤ (tx l₁).length) && Builtin.Str.subAt (tx l₁) y (fromIndex (tx l₁).length (k : Int)))) s
  rw [e, e4]; exact h
theorem r_len {Q : Value → Shared → Prop} (S : St b s l) (hz : x.length ≤ 1048576) (h : ∀ t s', St b s' l → Q (.int (x.cps.toList.length : Nat) t) s') : wpAny (model prog w) A (call (.builtin "len") [.str x t]) Q E s :=
  PyProof.Rows.len_str (by omega) (by have e3 : x.length = x.cps.toList.length := by simp [Str.length]
                                      rw [e3]; exact h _ _ S)
end
theorem words_e4_str : True := by
 (k_with "roomc.e4_str0" => first | exact Room.cl (d := 0) (Room.deep (by assumption) (by decide)) | exact Room.cl (by assumption))
 (k_with "op.e4_str1" => first
  | (focus ((with_reducible refine' m_eq_nil ?_ ?_ ?_ ?_ ?_); (rotate_right 5); (· with_reducible assumption); (· k_extra "mem"); (· k_extra "mem"); (· k_extra "roomc")))
  | (focus ((with_reducible refine' r_eq_nil ?_ ?_ ?_ ?_ ?_); (rotate_right 5); (· with_reducible assumption); (· k_extra "mem"); (· k_extra "mem"); (· k_extra "roomc")))
  | (focus ((with_reducible refine' m_ne_nil ?_ ?_ ?_ ?_ ?_); (rotate_right 5); (· with_reducible assumption); (· k_extra "mem"); (· k_extra "mem"); (· k_extra "roomc")))
  | (focus ((with_reducible refine' r_ne_nil ?_ ?_ ?_ ?_ ?_); (rotate_right 5); (· with_reducible assumption); (· k_extra "mem"); (· k_extra "mem"); (· k_extra "roomc")))
  | (focus ((with_reducible refine' m_last ?_ ?_ ?_ ?_ ?_ ?_); (rotate_right 6); (· with_reducible assumption); (· k_extra "mem"); (· rfl); (· rfl); (rotate_left 1); (· with_unfolding_all rfl); (rotate_right 1); (intro _)))
  | (focus ((with_reducible refine' r_append ?_ ?_ ?_ ?_); (rotate_right 4); (· with_reducible assumption); (· k_extra "del"); (· first | assumption | (simp; done) | omega); (intro _ _)))
  | (focus ((with_reducible refine' m_append ?_ ?_ ?_ ?_ ?_); (rotate_right 5); (· with_reducible assumption); (· k_extra "del"); (· first | assumption | (simp; done) | omega); (· rfl); (intro _ _)))
  | (focus ((with_reducible refine' m_pop ?_ ?_ ?_ ?_ ?_); (rotate_right 5); (· with_reducible assumption); (· k_extra "del"); (· rfl); (· first | assumption | (simp; done) | omega); (intro _ _ _)))
  | (focus ((with_reducible refine' r_in_tup ?_ ?_ ?_ ?_); (rotate_right 4); (· with_reducible assumption); (· k_extra "mem"); (· rfl)))
  | (focus ((with_reducible refine' r_notin_tup ?_ ?_ ?_ ?_); (rotate_right 4); (· with_reducible assumption); (· k_extra "mem"); (· rfl)))
  | with_reducible refine r_isalpha ?_
  | (focus ((with_reducible refine' r_len ?_ ?_ ?_); (rotate_right 3); (· with_reducible assumption); (· decide +kernel); (intro _ _ _)))
  | fail "none")
 (k_with "x1.e4_str2" => first
  | (focus ((with_reducible refine' m_meth_append ?_ ?_ ?_); (rotate_right 3); (· with_reducible assumption); (· k_extra "mem")))
  | (focus ((with_reducible refine' r_meth_append ?_ ?_ ?_); (rotate_right 3); (· with_reducible assumption); (· k_extra "mem")))
  | (focus ((with_reducible refine' m_meth_pop ?_ ?_ ?_); (rotate_right 3); (· with_reducible assumption); (· k_extra "mem")))
  | with_reducible refine r_m_isalpha ?_
  | with_reducible refine r_m_lower ?_
  | with_reducible refine r_m_index ?_
  | with_reducible refine r_m_startswith ?_
  | fail "none")
 trivial
local macro_rules
  | `(tactic| k_extra "roomc") => `(tactic| k_extra "roomc.e4_str0")
  | `(tactic| k_extra "op") => `(tactic| k_extra "op.e4_str1")
  | `(tactic| k_extra "x1") => `(tactic| k_extra "x1.e4_str2")
noncomputable abbrev bmE : List Value := [.type "Exception", .type "BaseException", .type "object"]
section
variable {prog : Program} {w : World} {A : Around} {R : Result → Shared → Prop} {h : Heap} {g : Array GenState} {d : Drawn} {t : Nat} {os : OsState}
variable {nm q : Str} {C N P : Addr} {bs : List Value} {hdct : Bool} {sn : List Str} {sub : List Value} {ab : Bool} {col : Option Bool} {dd : Option Addr} {k0 k1 k2 k3 k5 : Option Value}

noncomputable abbrev excObj (C t : Addr) : Obj := { cls := .ref C, data := .fields #[.ref t, .none, .none, .none, .bool false, .none] }
noncomputable abbrev tupObj (vs : List Value) : Obj := { cls := .type "tuple", data := .seq vs.toArray }

theorem x_check {M : Model} {E : Value → Shared → Prop} {rest : List Value} {Q : Unit → Shared → Prop} (hC : h.get? C = some (excClassObj nm q C N bs (.ref P :: bmE) hdct sn sub ab col dd k0 k1 k2 k3 k5 "Exception.__new__"))
    (hq : Q () ⟨h, g, d, t, os⟩) : wpAny M A (checkBuiltinCall "Exception.__new__" ⟨.ref C :: rest, []⟩) Q E ⟨h, g, d, t, os⟩ := by
  have F := PySem.F.excBase_Exception
  have hstar := F.noStar
  have hcont : (Value.ref C :: .ref P :: bmE).contains (.type "Exception") = true := by simp
  simp only [checkBuiltinCall, F.newKind, F.newSplit, F.newRow]
  repeat (first | refine wpAny_loadPart_at hC ?_ | (refine wpAny_isSubtype_exc hC ?_; rw [hcont]) | refine wpAny_staticBase_exc hC ?_ | refine wpAny_madeBy_exc hC ?_ | simp only [bne_self_eq_false, Bool.false_eq_true, if_false] | wp_step)
  exact hq

theorem x_new {rest : List Value} (hC : h.get? C = some (excClassObj nm q C N bs (.ref P :: bmE) hdct sn sub ab col dd k0 k1 k2 k3 k5 "Exception.__new__")) (hrest : rest.length ≤ sizeLine)
    (hq : R (.ok (.ret (.ref (h.objs.size + 1)))) ⟨(h.push (tupObj rest)).push (excObj C h.objs.size), g, d, t, os⟩) :
    codeAny (model prog w) A (.builtin "Exception.__new__" ⟨.ref C :: rest, []⟩) R ⟨h, g, d, t, os⟩ := by
  have F := PySem.F.excBase_Exception
  have hends := F.ends
  have hcB : (Value.ref C :: .ref P :: bmE).contains (.type "Exception") = true := by simp
  have hcA : (Value.ref C :: .ref P :: bmE).contains (.type "AttributeError") = false := by rfl
  have hcN : (Value.ref C :: .ref P :: bmE).contains (.type "NameError") = false := by rfl
  refine codeAny_builtinAt F.entry ?_
  unfold Builtin.«BaseException.__new__»
  refine PySem.wpAt_bind ?_
  show PySem.wpAt _ _ _ (stack >>= _) _ _ _
  refine PySem.wpAt_bind (PySem.wpAt_stack fun p below => PySem.wpAt_of_wpAny ?_)
  wp_walk
  refine PySem.wpAt_of_wpAny ?_
  rw [F.owner]
  repeat (first | with_reducible refine wpAny_madeHere_exc F.canon hC ?_ | with_reducible refine wpAny_loadPart_at hC ?_ | (with_reducible refine wpAny_isSubtype_exc hC ?_; first | rw [hcB] | rw [hcA] | rw [hcN]) | wp_step)
  show R _ _
  rw [Heap.size_push]
  exact hq

noncomputable def amade (A : Around) : Around := { A with depth := A.depth + 1, units := A.units + 1 }
theorem under_made {rest : List Value} {kw : List (Str × Value)} : A.under (.builtin "type.__call__" ⟨.ref C :: rest, kw⟩) = (amade A) := by
  have e1 : (Code.builtin "type.__call__" ⟨.ref C :: rest, kw⟩).weight = 1 := by kernel_rfl
  have e2 : (Code.builtin "type.__call__" ⟨.ref C :: rest, kw⟩).cUnits = 1 := by kernel_rfl
  have e3 : (Code.builtin "type.__call__" ⟨.ref C :: rest, kw⟩).envs = [] := by kernel_rfl
  have e4 : (Code.builtin "type.__call__" ⟨.ref C :: rest, kw⟩).guards = [] := by kernel_rfl
  unfold Around.under amade
  rw [e1, e2, e3, e4]; rfl
/-- a call of an own exception class whose line has an own __init__ -/
theorem x_make {E : Value → Shared → Prop} {rest : List Value} {f : Addr} {Q : Value → Shared → Prop} (hC : h.get? C = some (excClassObj nm q C N bs (.ref P :: bmE) hdct sn sub ab col dd k0 k1 k2 k3 k5 "Exception.__new__")) (hrest : rest.length ≤ sizeLine)
    (hi : Looks (model prog w) h (typeLookup (.ref C) "__init__") (some (.ref f))) (hb : ∀ self, Looks (model prog w) h (bindSpecial (.ref f) self) (.ref f, [self]))
    (hq : wpAny (model prog w) (amade A) (call (.ref f) (.ref (h.objs.size + 1) :: rest)) (fun v s' => v = .none ∧ Q (.ref (h.objs.size + 1)) s') E ⟨(h.push (tupObj rest)).push (excObj C h.objs.size), g, d, t, os⟩) :
    wpAny (model prog w) A (call (.ref C) rest) Q E ⟨h, g, d, t, os⟩ := by
  have F := PySem.F.excBase_Exception
  have f1 := tc_lookup
  have f2 := tc_bind (.ref C)
  have hT : (⟨h, g, d, t, os⟩ : Shared).TypeIs (.ref C) "type" := ⟨_, hC, rfl⟩
  refine wpAny_call (codeAny_of_tree ?_)
  show wpAny _ _ (callAny (.ref C) _) _ _ _
  repeat (any_goals (first | assumption | with_reducible refine wpAny_loadPart_at hC ?_ | wp_step))
  refine ⟨rfl, ?_⟩
  refine codeAny_call_builtin_at (Code.quiet_builtin _ (by decide +kernel)) entry_typeCall (wpAny_check_type_call_sub hC ?_)
  repeat (first | with_reducible refine wpAny_loadPart_at hC ?_ | with_reducible refine wpAny_madeBy_exc hC ?_ | wp_step)
  refine codeAny_call_builtin_code (Code.quiet_builtin _ F.quiet) (x_check hC ?_)
  refine x_new hC hrest ?_
  show wpAny _ _ _ _ _ _
  have k : ∀ b o, h.get? b = some o → ((h.push (tupObj rest)).push (excObj C h.objs.size)).get? b = some o := fun b o e => Heap.get?_push_of_some _ (Heap.get?_push_of_some _ e)
  have hC₁ := k _ _ hC
  have hget : ((h.push (tupObj rest)).push (excObj C h.objs.size)).get? (h.objs.size + 1) = some (excObj C h.objs.size) := by heap_get
  have hcC : (Value.ref C :: .ref P :: bmE).contains (.ref C) = true := by simp
  unfold isInstance
  repeat (first | with_reducible refine wpAny_loadPart_at hget ?_ | wp_step)
  refine wpAny_isSubtype_exc hC₁ ?_
  rw [hcC]
  repeat wp_step
  show wpAny _ _ (typeLookup (.ref C) _) _ _ _
  refine (hi.keeps k) _ _ _ _ (fun _ _ e => e) ?_
  refine wpAny_holding (wpAny_bind (((hb (.ref (h.objs.size + 1))).keeps k) _ _ _ _ (fun _ _ e => e) ?_))
  rw [show A.under (.builtin "type.__call__" ⟨[.ref C] ++ rest, []⟩) = (amade A) from under_made]
  refine wpAny_bind (wpAny_mono hq (fun v s' hv => ?_) fun _ _ e => e)
  obtain ⟨rfl, hv⟩ := hv
  exact wpAny_pure (wpAny_pure hv)


end
section
variable {prog : Program} {w : World} {A : Around} {E : Value → Shared → Prop} {K : Frag} {C f : Addr} {h : Heap} {g : Array GenState} {d : Drawn} {t : Nat} {os : OsState}
set_option maxHeartbeats 400000 in
theorem make_at {rest : List Value} {Q : Value → Shared → Prop} (Y : Makes (model prog w) h C) (hi : Looks (model prog w) h (typeLookup (.ref C) "__init__") (some (.ref f)))
    (hb : ∀ self, Looks (model prog w) h (bindSpecial (.ref f) self) (.ref f, [self]))
    (hq : wpAny (model prog w) (amade A) (call (.ref f) (.ref (h.objs.size + 1) :: rest)) (fun v s' => v = .none ∧ Q (.ref (h.objs.size + 1)) s') E ⟨(h.push emptyDict).push (instObj C h.objs.size), g, d, t, os⟩) :
    wpAny (model prog w) A (call (.ref C) rest) Q E ⟨h, g, d, t, os⟩ := by
  have Y' := Y
  obtain ⟨⟨oc, od, cd, sl, hC, e1, e2, e4⟩, made, base, self, top, call, typ⟩ := Y
  refine wpAny_call (codeAny_of_tree ?_)
  show wpAny _ _ (callAny (.ref C) _) _ _ _
  refine nd_load hC ?_
  show wpAny _ _ (callAny.viaDunder (.ref C) _) _ _ _
  unfold callAny.viaDunder
  refine wpAny_bind (call.at ?_)
  dsimp only
  rw [tc_bind]
  refine wpAny_bind (wpAny_pure (wpAny_bind (wpAny_pure ?_)))
  refine wpAny_pure (a := Fin.again (.call (.builtin "type.__call__") ⟨.ref C :: rest, []⟩)) (And.intro rfl ?_)
  refine codeAny_call_builtin_at (Code.quiet_builtin _ (by decide +kernel)) entry_typeCall (check_slot tc_kind tc_split typ (tc_args _ _ _) ?_)
  unfold Builtin.«type.__call__»
  have hm : Looks (model prog w) h (mroOf (.ref C)) cd.mro := ((Looks.ld (part := none) hC).andThen .now).andThen .now
  repeat (first | simp only [e4, Bool.false_eq_true, if_false] | with_reducible refine wpAny_call ?_ | lk)
  refine new_K Y' hi (.inl rfl) ?_
  have k : ∀ b o, h.get? b = some o → ((h.push emptyDict).push (instObj C h.objs.size)).get? b = some o := fun b o e => Heap.get?_push_of_some _ (Heap.get?_push_of_some _ e)
  have hx : ((h.push emptyDict).push (instObj C h.objs.size)).get? (h.objs.size + 1) = some (instObj C h.objs.size) := by heap_get
  have t1 : Looks (model prog w) ((h.push emptyDict).push (instObj C h.objs.size)) (typeOf (.ref (h.objs.size + 1))) (.ref C) := (Looks.ld hx).andThen .now
  have s1 := self.keeps k
  have i1 := hi.keeps k
  have b1 := (hb (.ref (h.objs.size + 1))).keeps k
  unfold isInstance
  show wpAny _ _ _ _ _ _
  repeat (first | with_reducible refine wpAny_loadPart_at hx ?_ | wp_step)
  refine s1 _ _ _ _ (fun _ _ e => e) ?_
  repeat wp_step
  show wpAny _ _ (typeLookup (.ref C) _) _ _ _
  refine (hi.keeps k) _ _ _ _ (fun _ _ e => e) ?_
  refine wpAny_holding (wpAny_bind (((hb (.ref (h.objs.size + 1))).keeps k) _ _ _ _ (fun _ _ e => e) ?_))
  rw [under_made]
  refine wpAny_bind (wpAny_mono hq (fun v s' hv => ?_) fun _ _ e => e)
  obtain ⟨rfl, hv⟩ := hv
  exact wpAny_pure (wpAny_pure hv)
theorem r_make {b : Bs} {s : Shared} {l : Led} {args : List Value} {Q : Value → Shared → Prop} (X : Wd K b) (S : St b s l) (hm : makesIn K C = true) (hi : findIn K (.ref C) "__init__" = some (some (.ref f))) (hf : isFn K (.ref f) = true)
    (h : ∀ x dx s', St b s' ((x, inst C dx) :: (dx, ids 0 fun _ => none) :: l) → wpAny (model prog w) (amade A) (call (.ref f) (.ref x :: args)) (fun v s2 => v = .none ∧ Q (.ref x) s2) E s') : wpAny (model prog w) A (call (.ref C) args) Q E s := by
  have XS := X.inS S
  obtain ⟨hp, g, d, tk, os⟩ := s
  refine make_at (makes_of XS hm) (looks_findIn XS hi) (fun self => bind_fn XS self (beq_iff_eq.mp hf)) (h _ hp.objs.size _ ?_)
  have S1 := S.push (o := emptyDict) (P := ids 0 fun _ => none) rfl ⟨#[], 0, rfl, (fun e he => absurd he (by simp)), (fun _ => rfl), Nat.le_refl _⟩
  have S2 := S1.push (o := instObj C hp.objs.size) (P := inst C hp.objs.size) rfl rfl
  rwa [Heap.size_push] at S2
end
section
variable {prog : Program} {w : World} {A : Around} {E : Value → Shared → Prop} {s : Shared} {env : Env}
theorem r_while {test : Expr} {body : List Stmt} {pos : Pos} {Q : Flow → Shared → Prop} (I : Nat → Shared → Prop)
    (turn : ∀ n s R Z, LpQ (fun s => ∃ m, m < n ∧ I m s) (Q .next) Q R Z → I n s → WTurn (model prog w) A env test body R Z E s)
    (n : Nat) (h : I n s) : wpAny (model prog w) A (exec (.While test body [] pos) env) Q E s := by
  refine wpAny_While (codeAny_whileLoop I (fun n s hI => ?_) n h)
  refine wpAny_mono (turn n s _ _ .mk' hI) (fun c s₂ h₂ => ?_) fun _ _ e => e
  cases c with
  | true => exact wpAny_mono h₂ (fun f _ h => by cases f <;> exact h) fun _ _ e => e
  | false => exact wpAny_execs_nil h₂
end
theorem StR.extBut {b : Bs} {h h' : Heap} {g : Array GenState} {d : Drawn} {os : OsState} {l : Led} {a : Addr} {P : Cell} (S : StR b h g d os ((a, P) :: l)) (k : Heap.ExtBut a h h') : StR b h' g d os l := by
  have hn := List.nodup_cons.mp S.nodup
  refine ⟨S.gens, S.drawn, S.os, fun c x e => k c x (fun q => ?_) (S.stays c x e), fun q hq => ?_, fun q hq => S.fresh q (.tail _ hq), hn.2⟩
  · have := S.fresh (a, P) (.head _); rw [q] at e; dsimp only at this; rw [this] at e; cases e
  · obtain ⟨x, hx, px⟩ := S.at_ q (.tail _ hq)
    exact ⟨x, k _ _ (fun z => hn.1 (List.mem_map.mpr ⟨q, hq, z⟩)) hx, px⟩

/-- an iterator: its n items, its cell at each turn, what must lie in the ledger beside it -/
structure Iter (prog : Program) (w : World) (b : Bs) (it : Addr) (n : Nat) (item : Nat → Value → Prop) (cell : Nat → Cell) (pre : Led → Prop) : Prop where
  next : ∀ (A : Around) (i : Nat) (s : Shared) (l : Led) (Q : Option Value → Shared → Prop) (E : Value → Shared → Prop), i < n → pre l → St b s ((it, cell i) :: l) →
    (∀ v s', item i v → St b s' ((it, cell (i + 1)) :: l) → Q (some v) s') → wpAny (model prog w) A (pyNext (.ref it)) Q E s
  stop : ∀ (A : Around) (s : Shared) (l : Led) (Q : Option Value → Shared → Prop) (E : Value → Shared → Prop), A.handled = none → pre l → St b s ((it, cell n) :: l) →
    (∀ s', St b s' l → Q none s') → wpAny (model prog w) A (pyNext (.ref it)) Q E s

section
variable {prog : Program} {w : World} {A : Around} {E : Value → Shared → Prop} {b : Bs} {s : Shared} {l : Led} {env : Env} {it a : Addr} {n : Nat} {item : Nat → Value → Prop} {cell : Nat → Cell} {pre : Led → Prop} {vs : List Value} {ms : List (List Nat)}
theorem r_forLoop {x : Str} {px : Pos} {body : List Stmt} {Q : Flow → Shared → Prop} (I : Iter prog w b it n item cell pre) (hh : A.handled = none) (Inv : Nat → Led → Prop)
    (turn : ∀ i s l v R Z, LpQ (fun s => ∃ l', Inv (i + 1) l' ∧ pre l' ∧ St b s ((it, cell (i + 1)) :: l')) (Q .next) Q R Z → i < n → Inv i l → pre l → item i v → St b s ((it, cell (i + 1)) :: l) →
      FTurn (model prog w) A env x v body R E s)
    (done : ∀ s l, Inv n l → St b s l → Q .next s) (h0 : Inv 0 l) (hp : pre l) (S : St b s ((it, cell 0) :: l)) :
    codeAny (model prog w) A (.forLoop (.Name x px) (.ref it) body [] env) (fun r s' => match r with | .ok f => Q f s' | .error e => cameBackBy (model prog w) A env E e s') s := by
  refine codeAny_forLoop (fun k s => ∃ i l, i + k = n ∧ Inv i l ∧ pre l ∧ St b s ((it, cell i) :: l)) (fun k s ⟨i, l, hk, hI, hp, S⟩ => ?_) n ⟨0, l, by omega, h0, hp, S⟩ 
  by_cases hi : i < n
  · refine I.next A i s l _ _ hi hp S fun v s' hv S' => ?_
    refine wpAny_assign_Name (wpAny_mono (turn i s' l v _ _ .mk' hi hI hp hv S') (fun _ s₂ h₂ => wpAny_mono h₂ (fun f s₃ h₃ => ?_) fun _ _ e => e) fun _ _ e => e)
    cases f <;> first | exact h₃ | (obtain ⟨l', a, c, d⟩ := h₃; exact ⟨k - 1, by omega, i + 1, l', by omega, a, c, d⟩)
  · obtain rfl : i = n := by omega
    exact I.stop A s l _ _ hh hp S fun s' S' => wpAny_execs_nil (done s' l hI S')

noncomputable def lit (a : Addr) (i : Nat) : Cell := fun o => o.cls = .type "list_iterator" ∧ o.data = .fields #[.ref a, .int i 0]
theorem lit_at {i : Nat} (S : St b s ((it, lit a i) :: l)) : s.heap.IsListIter it a i := let ⟨o, ho, h1, h2⟩ := S.head; ⟨o, ho, h1, h2⟩
theorem iter_list : Iter prog w b it vs.length (fun i v => vs[i]? = some v) (lit a) (fun l => (a, lst vs) ∈ l) where
  next A i s l Q E hi hp S h := by
    refine wpAny_pyNext_list_item (x := vs[i]) (lit_at S) (lst_at S (.tail _ hp)) (by simp [hi]) fun h' hit hs => h _ _ (by simp [hi]) ?_
    obtain ⟨o, ho, h1, h2⟩ := hit
    exact S.set hs ho ⟨h1, h2⟩
  stop A s l Q E hh hp S h := wpAny_pyNext_list_end hh (lit_at S) (lst_at S (.tail _ hp)) (by simp) fun h' k => h _ (S.extBut k)
theorem iter_mk : Iter prog w b it ms.length (fun i v => ∃ m t, ms[i]? = some m ∧ v = .str (tx m) t) (lit a) (fun l => (a, mk ms) ∈ l) where
  next A i s l Q E hi hp S h := by
    obtain ⟨ps, e, hl⟩ := mk_at S (.tail _ hp)
    subst e
    have hi' : i < ps.length := by simpa using hi
    refine wpAny_pyNext_list_item (x := .str (tx ps[i].1) ps[i].2) (lit_at S) hl (by simp [txs, hi']) fun h' hit hs => h _ _ ⟨ps[i].1, ps[i].2, by simp [hi'], rfl⟩ ?_
    obtain ⟨o, ho, h1, h2⟩ := hit
    exact S.set hs ho ⟨h1, h2⟩
  stop A s l Q E hh hp S h := by
    obtain ⟨ps, e, hl⟩ := mk_at S (.tail _ hp)
    subst e
    exact wpAny_pyNext_list_end hh (lit_at S) hl (by simp [txs]) fun h' k => h _ (S.extBut k)
theorem r_iter_list {Q : Value → Shared → Prop} (S : St b s l) (hl : ∃ its, s.heap.IsList a its) (h : ∀ it s', St b s' ((it, lit a 0) :: l) → Q (.ref it) s') : wpAny (model prog w) A (pyIter (.ref a)) Q E s :=
  let ⟨_, hl⟩ := hl; wpAny_pyIter_list hl (h s.heap.objs.size { s with heap := s.heap.push { cls := .type "list_iterator", data := .fields #[.ref a, .int 0 0] } } (S.push rfl ⟨rfl, rfl⟩))
noncomputable def tit (a : Addr) (i : Nat) : Cell := fun o => o.cls = .type "tuple_iterator" ∧ o.data = .fields #[.ref a, .int i 0]
theorem tit_at {i : Nat} (S : St b s ((it, tit a i) :: l)) : s.heap.IsTupleIter it a i := let ⟨o, ho, h1, h2⟩ := S.head; ⟨o, ho, h1, h2⟩
theorem iter_tup (ht : ∀ s l, pre l → St b s l → s.heap.IsTuple a vs.toArray) : Iter prog w b it vs.length (fun i v => vs[i]? = some v) (tit a) pre where
  next A i s l Q E hi hp S h := by
    refine wpAny_pyNext_tuple_item (x := vs[i]) (tit_at S) (ht _ _ hp S.drop) (by simp [hi]) fun h' hit hs => h _ _ (by simp [hi]) ?_
    obtain ⟨o, ho, h1, h2⟩ := hit
    exact S.set hs ho ⟨h1, h2⟩
  stop A s l Q E hh hp S h := wpAny_pyNext_tuple_end hh (tit_at S) (ht _ _ hp S.drop) (by simp) fun h' k => h _ (S.extBut k)
theorem r_iter_tup {Q : Value → Shared → Prop} (S : St b s l) (hl : s.heap.IsTuple a vs.toArray) (h : ∀ it s', St b s' ((it, tit a 0) :: l) → Q (.ref it) s') : wpAny (model prog w) A (pyIter (.ref a)) Q E s :=
  wpAny_pyIter_tuple hl (h s.heap.objs.size { s with heap := s.heap.push { cls := .type "tuple_iterator", data := .fields #[.ref a, .int 0 0] } } (S.push rfl ⟨rfl, rfl⟩))
end
section
variable {prog : Program} {w : World} {A : Around} {E : Value → Shared → Prop} {b : Bs} {s : Shared} {l : Led} {a : Addr} {vs : List Value} {ms : List (List Nat)} {value slice : Expr} {i : Int} {u : Tok} {ops : List Value} {Q : Value → Shared → Prop}
theorem rev_at {its : List Value} (S : St b s l) (hl : s.heap.IsList a its.toArray) (hi : i = -1) (hz : its.length ≤ 1048576)
    (h : ∀ n s', St b s' ((n, lst its.reverse) :: l) → Q (.ref n) s') (hs : subscripted slice false (.ref a) (.ref s.heap.objs.size) = operate ops (getItem (.ref a) (.ref s.heap.objs.size))) :
    wpAny (model prog w) A (subscriptTail value slice (.ref a) (.ref s.heap.objs.size)) Q E { s with heap := s.heap.push { cls := .type "slice", data := .fields #[.none, .none, .int i u] } } := by
  subst hi
  refine tail_any (Heap.IsList.typeIs (s := { s with heap := s.heap.push { cls := .type "slice", data := .fields #[.none, .none, .int (-1) u] } }) (hl.push _)) list_getitem_lookup
    (wpAny_getItem_list_slice (hl.push _) (Heap.IsSliceOf.new ..) .none .none (.int _ _) (by simp) ?_ (by rw [List.size_toArray, sizeLine_eq]; omega)) hs
  rw [krv_pick]
  have S1 := S.push (o := { cls := .type "slice", data := .fields #[.none, .none, .int (-1) u] }) (P := fun _ => True) rfl trivial
  have S2 := S1.drop.push (o := { cls := .type "list", data := .seq its.reverse.toArray }) (P := lst its.reverse) rfl ⟨0, rfl⟩
  exact h _ _ S2
theorem m_rev (S : St b s l) (G : (a, mk ms) ∈ l) (hi : i = -1) (hz : ms.length ≤ 1048576)
    (h : ∀ n s', St b s' ((n, mk ms.reverse) :: l) → Q (.ref n) s') (hs : subscripted slice false (.ref a) (.ref s.heap.objs.size) = operate ops (getItem (.ref a) (.ref s.heap.objs.size))) :
    wpAny (model prog w) A (subscriptTail value slice (.ref a) (.ref s.heap.objs.size)) Q E { s with heap := s.heap.push { cls := .type "slice", data := .fields #[.none, .none, .int i u] } } := by
  obtain ⟨ps, e, hl⟩ := mk_at S G
  subst e
  refine rev_at S hl hi (by rw [txs_len]; simpa using hz) (fun n s' S' => h n s' (S'.weak fun o q => ⟨ps.reverse, by simp, by simpa [txs] using q⟩)) hs
theorem neg_one {t : Tok} (S : St b s l) (h : ∀ t s', St b s' l → Q (.int (-1) t) s') : wpAny (model prog w) A (unaryOp .USub (.int 1 t)) Q E s := neg_int (h _ _ S)
end
theorem words_e6_rev : True := by
 (k_with "sl.e6_rev0" => first
  | (focus ((with_reducible refine' m_rev ?_ ?_ ?_ ?_ ?_ ?_); (rotate_right 6); (· with_reducible assumption); (· k_extra "mem"); (· rfl); (· assumption); (rotate_left 1); (· with_unfolding_all rfl); (rotate_right 1); (intro _ _ _)))
  | fail "none")
 (k_with "op.e6_rev1" => first
  | (focus ((with_reducible refine' neg_one ?_ ?_); (rotate_right 2); (· with_reducible assumption); (intro _ _ _)))
  | fail "none")
 (k_with "st.e6_rev2" => first
  | (focus ((with_reducible refine' wpAny_For ?_ ?_); (rotate_right 2); (rotate_left 1); (· intro _; with_unfolding_all rfl); (rotate_right 1)))
  | fail "none")
 trivial
local macro_rules
  | `(tactic| k_extra "sl") => `(tactic| k_extra "sl.e6_rev0")
  | `(tactic| k_extra "op") => `(tactic| k_extra "op.e6_rev1")
  | `(tactic| k_extra "st") => `(tactic| k_extra "st.e6_rev2")
section
variable {prog : Program} {w : World} {M : Model} {A : Around} {E : Value → Shared → Prop} {b : Bs} {s : Shared} {l : Led} {env : Env} {t : Addr} {vs : List Value}
theorem r_unpackItems {n : Nat} {Q : List Value → Shared → Prop} (S : St b s l) (G : (t, tup vs) ∈ l) (hh : A.handled = none) (hn : n = vs.length) (h : ∀ s', St b s' l → Q vs s') : wpAny (model prog w) A (unpackItems (.ref t) n none) Q E s := by
  subst hn
  exact wpAny_unpackItems_tuple (items := vs.toArray) hh (tup_at S G) fun h' k => h _ (S.keeps fun c x e => k c x (Nat.ne_of_lt (Heap.lt_size e)) e)
theorem r_assignTup {elts : List Expr} {k : Nat} {pos : Pos} {Q : Unit → Shared → Prop} (S : St b s l) (G : (t, tup vs) ∈ l) (hh : A.handled = none) (hn : (assignEach elts env).length = vs.length) (hs : (assignEach elts env).findIdx? (·.1) = none)
    (h : ∀ s', St b s' l → wpAny (model prog w) A (assignInOrder ((assignEach elts env).map (·.2)) vs) Q E s') : wpAny (model prog w) A (assign (.Tuple elts k pos) env (.ref t)) Q E s :=
  wpAny_assign_Tuple (items := vs.toArray) hh (tup_at S G) hn hs fun h' k => h _ (S.keeps fun c x e => k c x (Nat.ne_of_lt (Heap.lt_size e)) e)
theorem r_aio {T : List (Value → Sem Unit)} {X : List Value} {ts : List (Value → Sem Unit)} {f : Value → Sem Unit} {x : Value} {xs : List Value} {Q : Unit → Shared → Prop} (he : T = f :: ts) (hx : X = x :: xs)
    (h : wpAny M A (f x) (fun _ s₁ => wpAny M A (assignInOrder ts xs) Q E s₁) E s) : wpAny M A (assignInOrder T X) Q E s := by
  subst he hx; exact assignInOrder_cons h
theorem r_aio0 {T : List (Value → Sem Unit)} {X : List Value} {Q : Unit → Shared → Prop} (he : T = []) (h : Q () s) : wpAny M A (assignInOrder T X) Q E s := by
  subst he; exact wpAny_pure h
theorem r_assignAttr {o : Expr} {attr : Str} {pos : Pos} {v : Value} {Q : Unit → Shared → Prop} (h : wpAny M A (eval o env) (fun ov s₁ => wpAny M A (setAttr ov attr v) Q E s₁) E s) : wpAny M A (assign (.Attribute o attr pos) env v) Q E s := by
  rw [arm_assign_Attribute]
  exact wpAny_bind (wpAny_holding (wpAny_mono h (fun ov s₁ h₁ => wpAny_bind (wpAny_standAt (wpAny_bind (wpAny_holding (wpAny_mono h₁ (fun _ s₂ h₂ => wpAny_release h₂) fun _ _ e => e))))) fun _ _ e => e))
end
theorem words_e7_tup : True := by
 (k_with "st.e7_tup0" => first
  | (focus ((with_reducible refine' Assign_Tuple_swapped ?_ ?_ ?_); (rotate_right 3); (rotate_left 1); (· rfl); (rotate_right 1); (rotate_left 1); (· rfl); (rotate_right 1)))
  | (focus ((with_reducible refine' PyProof.Rows.Assign_Tuple ?_ ?_ ?_); (rotate_right 3); (rotate_left 1); (· rfl); (rotate_right 1); (rotate_left 1); (· rfl); (rotate_right 1)))
  | (focus ((with_reducible refine' r_assignTup ?_ ?_ ?_ ?_ ?_ ?_); (rotate_right 6); (· with_reducible assumption); (· k_extra "mem"); (· assumption); (· rfl); (· rfl); (intro _ _)))
  | (focus ((with_reducible refine' r_unpackItems ?_ ?_ ?_ ?_ ?_); (rotate_right 5); (· with_reducible assumption); (· k_extra "mem"); (· assumption); (· rfl); (intro _ _)))
  | (focus ((with_reducible refine' r_aio ?_ ?_ ?_); (rotate_right 3); (· rfl); (· rfl)))
  | (focus ((with_reducible refine' r_aio0 ?_ ?_); (rotate_right 2); (· rfl)))
  | with_reducible refine bindName_ ?_
  | with_reducible refine PyProof.Rows.assign_Name ?_
  | with_reducible refine r_assignAttr ?_
  | fail "none")
 trivial
local macro_rules
  | `(tactic| k_extra "st") => `(tactic| k_extra "st.e7_tup0")
/-- a dict of names as the program's head lays it -/
noncomputable def tabOf (P : Params) (kvs : List (Str × Tok × Value)) : Array DictEntry := (kvs.map fun p => ⟨PyData.keyHash P p.1, .str p.1 p.2.1, p.2.2⟩).toArray
noncomputable def tabAt (kvs : List (Str × Tok × Value)) (k : Str) : Option Value := (kvs.find? fun p => decide (k = p.1)).map (·.2.2)
section
variable {prog : Program} {w : World} {M : Model} {A : Around} {E : Value → Shared → Prop} {s : Shared} {d : Addr} {kvs : List (Str × Tok × Value)} {n : Nat} {x : Str} {t : Tok}
theorem tab_map {h : Heap} (ho : h.get? d = some ⟨.type "dict", none, .dict (tabOf w.params kvs) n, #[]⟩) : h.MapOf (strKind prog w) d (tabAt kvs) := by
  refine ⟨_, _, _, ho, ⟨rfl, rfl, rfl⟩, rfl, fun e he => ?_, fun k => ?_⟩
  · unfold tabOf at he
    rw [List.mem_toArray, List.mem_map] at he
    obtain ⟨p, _, rfl⟩ := he
    exact ⟨p.1, strKind_is _ _ _ _, rfl⟩
  · unfold findBy tabOf tabAt
    rw [List.find?_toArray]
    clear ho
    induction kvs with
    | nil => rfl
    | cons p r ih =>
      have e : (strKind prog w).is k (.str p.1 p.2.1) = decide (k = p.1) := KeyKind.is_eq_decide (strKind_is _ _ _ _) k
      simp only [List.map_cons, List.find?_cons, e]
      cases decide (k = p.1) with
      | true => rfl
      | false => exact ih

theorem in_tabOf {Q : Value → Shared → Prop} (ho : s.heap.get? d = some ⟨.type "dict", none, .dict (tabOf w.params kvs) n, #[]⟩) (lo : (d == sysModules) = false) (h : Q (.bool (tabAt kvs x).isSome) { s with toks := s.toks + 1 }) :
    wpAny (model prog w) A (compareOp .In (.str x t) (.ref d)) Q E s := wpAny_in_of (strKind_is _ _ _ _) lo (tab_map ho) h
theorem item_tabOf {v : Value} {Q : Value → Shared → Prop} (ho : s.heap.get? d = some ⟨.type "dict", none, .dict (tabOf w.params kvs) n, #[]⟩) (hv : tabAt kvs x = some v) (h : Q v { s with toks := s.toks + 1 }) :
    wpAny (model prog w) A (getItem (.ref d) (.str x t)) Q E s := wpAny_getItem_of (strKind_is _ _ _ _) (tab_map ho) hv h
theorem meth_tabOf {pl : Sem Bool} {Q : Value → List Value → Shared → Prop} (ho : s.heap.get? d = some ⟨.type "dict", none, .dict (tabOf w.params kvs) n, #[]⟩) (h : Q (.builtin "dict.get") [.ref d] s) :
    wpAny (model prog w) A (getMethod (.ref d) "get" pl) (uncur Q) E s := by
  have h2 : uncur Q (.builtin "dict.get", [.ref d]) s := h
  have hm := tab_map (prog := prog) ho
  exact getMethod_builtin hm.typeIs PySem.F.plainAttrs_dict PySem.F.slot_dict_get PySem.F.type_dict_get hm.noDict h2
theorem get1_tabOf {Q : Value → Shared → Prop} (ho : s.heap.get? d = some ⟨.type "dict", none, .dict (tabOf w.params kvs) n, #[]⟩) (lo : (d == sysModules) = false) (h : Q ((tabAt kvs x).getD .none) { s with toks := s.toks + 1 }) :
    wpAny (model prog w) A (call (.builtin "dict.get") [.ref d, .str x t]) Q E s := by
  have hm := tab_map (prog := prog) ho
  exact call_meetsIn PySem.F.slot_dict_get hm.typeIs PySem.F.entry_dict_get (PySem.F.args_dict_get_2 _ _) (meets_dict_get (strKind prog w) d (strKind_is _ _ _ _) lo) ⟨_, hm, h⟩
theorem get2_tabOf {dv : Value} {Q : Value → Shared → Prop} (ho : s.heap.get? d = some ⟨.type "dict", none, .dict (tabOf w.params kvs) n, #[]⟩) (lo : (d == sysModules) = false) (h : Q ((tabAt kvs x).getD dv) { s with toks := s.toks + 1 }) :
    wpAny (model prog w) A (call (.builtin "dict.get") [.ref d, .str x t, dv]) Q E s := by
  have hm := tab_map (prog := prog) ho
  exact call_meetsIn PySem.F.slot_dict_get hm.typeIs PySem.F.entry_dict_get (PySem.F.args_dict_get_3 _ _ _) (meets_dict_get_default (strKind prog w) d (strKind_is _ _ _ _) lo dv) ⟨_, hm, h⟩
end
/-- what a scanner knows: the text's signs and the rest -/
structure Sc where
  tl : List Nat
  nested : Int
  at_ : Nat
  line : Nat
  ls : Nat
  ml : Addr
  last : Value

/-- what is still to be read -/
noncomputable def Sc.r (c : Sc) : List Nat := c.tl.drop c.at_

structure ScMap (S : Sc) (m : Str → Option Value) : Prop where
  text : ∃ t, m "text" = some (.str (tx S.tl) t)
  nested : ∃ t, m "nested" = some (.int S.nested t)
  at_ : ∃ t, m "at" = some (.int S.at_ t)
  line : ∃ t, m "line" = some (.int S.line t)
  ls : ∃ t, m "line_start" = some (.int S.ls t)
  marks : m "open_marks" = some (.ref S.ml)
  last : m "last" = some S.last
  only : ∀ y, y ∉ (["text", "nested", "at", "line", "line_start", "open_marks", "last"] : List Str) → m y = none

noncomputable def scD (S : Sc) : Cell := fun o => ∃ m, ids 7 m o ∧ ScMap S m

noncomputable abbrev KK (w : World) : Frag := ph.hd.heap_39 w.params

section
variable {prog : Program} {w : World} {A : Around} {E : Value → Shared → Prop} {b : Bs} {s : Shared} {l l' : Led} {x dx f : Addr} {c : Sc} {ex : Bool} {Q : Value → Shared → Prop} {QU : Unit → Shared → Prop}

theorem sc_open (S : St b s l) (G2 : (dx, scD c) ∈ l) : ∃ m, ScMap c m ∧ ∃ o, s.heap.get? dx = some o ∧ ids 7 m o :=
  let ⟨o, ho, m, hi, hm⟩ := S.get G2; ⟨m, hm, o, ho, hi⟩

theorem sc_text (X : Wd (KK w) b) (S : St b s l) (G1 : (x, inst 289 dx) ∈ l) (G2 : (dx, scD c) ∈ l) (h : Q (.str (tx c.tl) (tkOf s.heap dx "text")) (Tk s)) : wpAny (model prog w) A (getAttr (.ref x) "text" ex) Q E s := by
  obtain ⟨m, hm, ho⟩ := sc_open S G2
  obtain ⟨t, ht⟩ := hm.text
  rw [tkOf_str ho ht] at h
  exact r_getattrS X S G1 ho (by kernel_rfl) ht rfl h
theorem sc_nested (X : Wd (KK w) b) (S : St b s l) (G1 : (x, inst 289 dx) ∈ l) (G2 : (dx, scD c) ∈ l) (h : Q (.int c.nested (tkOf s.heap dx "nested")) (Tk s)) : wpAny (model prog w) A (getAttr (.ref x) "nested" ex) Q E s := by
  obtain ⟨m, hm, ho⟩ := sc_open S G2
  obtain ⟨t, ht⟩ := hm.nested
  rw [tkOf_int ho ht] at h
  exact r_getattrS X S G1 ho (by kernel_rfl) ht rfl h
theorem sc_at (X : Wd (KK w) b) (S : St b s l) (G1 : (x, inst 289 dx) ∈ l) (G2 : (dx, scD c) ∈ l) (h : Q (.int c.at_ (tkOf s.heap dx "at")) (Tk s)) : wpAny (model prog w) A (getAttr (.ref x) "at" ex) Q E s := by
  obtain ⟨m, hm, ho⟩ := sc_open S G2
  obtain ⟨t, ht⟩ := hm.at_
  rw [tkOf_int ho ht] at h
  exact r_getattrS X S G1 ho (by kernel_rfl) ht rfl h
theorem sc_line (X : Wd (KK w) b) (S : St b s l) (G1 : (x, inst 289 dx) ∈ l) (G2 : (dx, scD c) ∈ l) (h : Q (.int c.line (tkOf s.heap dx "line")) (Tk s)) : wpAny (model prog w) A (getAttr (.ref x) "line" ex) Q E s := by
  obtain ⟨m, hm, ho⟩ := sc_open S G2
  obtain ⟨t, ht⟩ := hm.line
  rw [tkOf_int ho ht] at h
  exact r_getattrS X S G1 ho (by kernel_rfl) ht rfl h
theorem sc_ls (X : Wd (KK w) b) (S : St b s l) (G1 : (x, inst 289 dx) ∈ l) (G2 : (dx, scD c) ∈ l) (h : Q (.int c.ls (tkOf s.heap dx "line_start")) (Tk s)) : wpAny (model prog w) A (getAttr (.ref x) "line_start" ex) Q E s := by
  obtain ⟨m, hm, ho⟩ := sc_open S G2
  obtain ⟨t, ht⟩ := hm.ls
  rw [tkOf_int ho ht] at h
  exact r_getattrS X S G1 ho (by kernel_rfl) ht rfl h
theorem sc_marks (X : Wd (KK w) b) (S : St b s l) (G1 : (x, inst 289 dx) ∈ l) (G2 : (dx, scD c) ∈ l) (h : Q (.ref c.ml) (Tk s)) : wpAny (model prog w) A (getAttr (.ref x) "open_marks" ex) Q E s := by
  obtain ⟨m, hm, ho⟩ := sc_open S G2
  exact r_getattrS X S G1 ho (by kernel_rfl) hm.marks rfl h
theorem sc_last (X : Wd (KK w) b) (S : St b s l) (G1 : (x, inst 289 dx) ∈ l) (G2 : (dx, scD c) ∈ l) (hh : handedIn c.last = true) (h : ∀ s', St b s' l → Q c.last s') : wpAny (model prog w) A (getAttr (.ref x) "last" ex) Q E s := by
  obtain ⟨m, hm, ho⟩ := sc_open S G2
  exact r_getattr' X S G1 ho (by kernel_rfl) hm.last hh h

theorem sc_meth {y : Str} {pl : Sem Bool} {Q : Value × List Value → Shared → Prop} (X : Wd (KK w) b) (S : St b s l) (G1 : (x, inst 289 dx) ∈ l) (G2 : (dx, scD c) ∈ l) (hok : methOk (KK w) 289 y f = true)
    (hy : y ∉ (["text", "nested", "at", "line", "line_start", "open_marks", "last"] : List Str)) (h : Q (.ref f, [.ref x]) s) : wpAny (model prog w) A (getMethod (.ref x) y pl) Q E s := by
  obtain ⟨o, ho, m, hi, hm⟩ := S.get G2
  obtain ⟨oi, hoi, e⟩ := S.get G1
  cases e
  unfold methOk at hok
  simp only [Bool.and_eq_true, beq_iff_eq] at hok
  obtain ⟨⟨h1, h2⟩, h3⟩ := hok
  exact method_fn (X.inS S) (⟨hoi, rfl, rfl, ho⟩ : InstAt s.heap x (instObj 289 dx) 289 (some o)) (plainGet_of h1).1 (plainGet_of h1).2 h2 (beq_iff_eq.mp h3) (by unfold shadowIn; dsimp only; rw [lookIn_ids hi, hm.only y hy]; rfl) h

theorem StR.as {b : Bs} {h : Heap} {g : Array GenState} {d : Drawn} {os : OsState} {l : Led} {a : Addr} {P P' : Cell} {o : Obj} (S : StR b h g d os ((a, P) :: l)) (ho : h.get? a = some o) (hp : P' o) : StR b h g d os ((a, P') :: l) :=
  ⟨S.gens, S.drawn, S.os, S.stays, fun q hq => by
    cases hq with
    | head => exact ⟨o, ho, hp⟩
    | tail _ hq => exact S.at_ q (.tail _ hq), fun q hq => by
    cases hq with
    | head => exact S.fresh (a, P) (.head _)
    | tail _ hq => exact S.fresh q (.tail _ hq), S.nodup⟩

theorem sc_set {y : Str} {v : Value} {c' : Sc} (X : Wd (KK w) b) (S : St b s l) (G1 : (x, inst 289 dx) ∈ l) (D : Del l dx (scD c) l') (hok : setOk (KK w) 289 y = true) (hs : ∀ m, ScMap c m → (m y).isSome = true ∧ ScMap c' (up m y v))
    (h : ∀ s', St b s' ((dx, scD c') :: l') → QU () s') : wpAny (model prog w) A (setAttr (.ref x) y v) QU E s := by
  have S' := S.del D
  obtain ⟨o, ho, m, hi, hm⟩ := S'.head
  have G1' : (x, inst 289 dx) ∈ (dx, ids 7 m) :: l' := by
    have := D.perm.mem_iff.mp G1
    rcases List.mem_cons.mp this with q | q
    · exfalso
      have e0 : x = dx := (Prod.mk.inj q).1
      subst e0
      obtain ⟨o2, ho2, e2⟩ := S.get G1
      rw [ho] at ho2; cases ho2
      obtain ⟨es, ep, e3, _⟩ := hi
      rw [e2] at e3
      cases congrArg Obj.data e3
    · exact .tail _ q
  refine r_setattr (n := 7) (n' := 7) (l' := l') X (S'.as (P' := ids 7 m) ho hi) G1' .head hok (by decide) (.inl ⟨(hs m hm).1, rfl⟩) fun s' S2 => h s' (S2.weak fun o q => ⟨_, q, (hs m hm).2⟩)

theorem sc_set_at {k : Nat} {i : Int} {t : Tok} (X : Wd (KK w) b) (S : St b s l) (G1 : (x, inst 289 dx) ∈ l) (D : Del l dx (scD c) l') (hi : i = (k : Int)) (h : ∀ s', St b s' ((dx, scD { c with at_ := k }) :: l') → QU () s') : wpAny (model prog w) A (setAttr (.ref x) "at" (.int i t)) QU E s := by
  subst hi
  exact sc_set (c' := { c with at_ := k }) X S G1 D (by kernel_rfl) (fun m hm => ⟨by obtain ⟨u, hu⟩ := hm.at_; rw [hu]; rfl,
    ⟨(hm.text.imp fun u e => (up_ne (by decide)).trans e), (hm.nested.imp fun u e => (up_ne (by decide)).trans e), ⟨t, up_self⟩, (hm.line.imp fun u e => (up_ne (by decide)).trans e), (hm.ls.imp fun u e => (up_ne (by decide)).trans e),
      (up_ne (by decide)).trans hm.marks, (up_ne (by decide)).trans hm.last, fun y hy => (up_ne (fun e => hy (by rw [e]; decide))).trans (hm.only y hy)⟩⟩) h
theorem sc_set_line {k : Nat} {i : Int} {t : Tok} (X : Wd (KK w) b) (S : St b s l) (G1 : (x, inst 289 dx) ∈ l) (D : Del l dx (scD c) l') (hi : i = (k : Int)) (h : ∀ s', St b s' ((dx, scD { c with line := k }) :: l') → QU () s') : wpAny (model prog w) A (setAttr (.ref x) "line" (.int i t)) QU E s := by
  subst hi
  exact sc_set (c' := { c with line := k }) X S G1 D (by kernel_rfl) (fun m hm => ⟨by obtain ⟨u, hu⟩ := hm.line; rw [hu]; rfl,
    ⟨(hm.text.imp fun u e => (up_ne (by decide)).trans e), (hm.nested.imp fun u e => (up_ne (by decide)).trans e), (hm.at_.imp fun u e => (up_ne (by decide)).trans e), ⟨t, up_self⟩, (hm.ls.imp fun u e => (up_ne (by decide)).trans e),
      (up_ne (by decide)).trans hm.marks, (up_ne (by decide)).trans hm.last, fun y hy => (up_ne (fun e => hy (by rw [e]; decide))).trans (hm.only y hy)⟩⟩) h
theorem sc_set_ls {k : Nat} {i : Int} {t : Tok} (X : Wd (KK w) b) (S : St b s l) (G1 : (x, inst 289 dx) ∈ l) (D : Del l dx (scD c) l') (hi : i = (k : Int)) (h : ∀ s', St b s' ((dx, scD { c with ls := k }) :: l') → QU () s') : wpAny (model prog w) A (setAttr (.ref x) "line_start" (.int i t)) QU E s := by
  subst hi
  exact sc_set (c' := { c with ls := k }) X S G1 D (by kernel_rfl) (fun m hm => ⟨by obtain ⟨u, hu⟩ := hm.ls; rw [hu]; rfl,
    ⟨(hm.text.imp fun u e => (up_ne (by decide)).trans e), (hm.nested.imp fun u e => (up_ne (by decide)).trans e), (hm.at_.imp fun u e => (up_ne (by decide)).trans e), (hm.line.imp fun u e => (up_ne (by decide)).trans e), ⟨t, up_self⟩,
      (up_ne (by decide)).trans hm.marks, (up_ne (by decide)).trans hm.last, fun y hy => (up_ne (fun e => hy (by rw [e]; decide))).trans (hm.only y hy)⟩⟩) h
theorem sc_set_last {v : Value} (X : Wd (KK w) b) (S : St b s l) (G1 : (x, inst 289 dx) ∈ l) (D : Del l dx (scD c) l') (h : ∀ s', St b s' ((dx, scD { c with last := v }) :: l') → QU () s') : wpAny (model prog w) A (setAttr (.ref x) "last" v) QU E s :=
  sc_set (c' := { c with last := v }) X S G1 D (by kernel_rfl) (fun m hm => ⟨by rw [hm.last]; rfl,
    ⟨(hm.text.imp fun u e => (up_ne (by decide)).trans e), (hm.nested.imp fun u e => (up_ne (by decide)).trans e), (hm.at_.imp fun u e => (up_ne (by decide)).trans e), (hm.line.imp fun u e => (up_ne (by decide)).trans e), (hm.ls.imp fun u e => (up_ne (by decide)).trans e),
      (up_ne (by decide)).trans hm.marks, up_self, fun y hy => (up_ne (fun e => hy (by rw [e]; decide))).trans (hm.only y hy)⟩⟩) h
end
section
variable {prog : Program} {w : World} {A : Around} {E : Value → Shared → Prop} {b : Bs} {s : Shared} {l : Led} {x dx : Addr} {c : Sc} {pl : Sem Bool} {Q : Value → List Value → Shared → Prop}
theorem me_sign (X : Wd (KK w) b) (S : St b s l) (G1 : (x, inst 289 dx) ∈ l) (G2 : (dx, scD c) ∈ l) (h : Q (.ref 174) [.ref x] s) : wpAny (model prog w) A (getMethod (.ref x) "sign" pl) (uncur Q) E s := sc_meth (f := 174) X S G1 G2 (by kernel_rfl) (by decide) h
theorem me_spot (X : Wd (KK w) b) (S : St b s l) (G1 : (x, inst 289 dx) ∈ l) (G2 : (dx, scD c) ∈ l) (h : Q (.ref 181) [.ref x] s) : wpAny (model prog w) A (getMethod (.ref x) "spot" pl) (uncur Q) E s := sc_meth (f := 181) X S G1 G2 (by kernel_rfl) (by decide) h
theorem me_step (X : Wd (KK w) b) (S : St b s l) (G1 : (x, inst 289 dx) ∈ l) (G2 : (dx, scD c) ∈ l) (h : Q (.ref 188) [.ref x] s) : wpAny (model prog w) A (getMethod (.ref x) "step" pl) (uncur Q) E s := sc_meth (f := 188) X S G1 G2 (by kernel_rfl) (by decide) h
theorem me_fault (X : Wd (KK w) b) (S : St b s l) (G1 : (x, inst 289 dx) ∈ l) (G2 : (dx, scD c) ∈ l) (h : Q (.ref 195) [.ref x] s) : wpAny (model prog w) A (getMethod (.ref x) "fault" pl) (uncur Q) E s := sc_meth (f := 195) X S G1 G2 (by kernel_rfl) (by decide) h
theorem me_counts_lines (X : Wd (KK w) b) (S : St b s l) (G1 : (x, inst 289 dx) ∈ l) (G2 : (dx, scD c) ∈ l) (h : Q (.ref 202) [.ref x] s) : wpAny (model prog w) A (getMethod (.ref x) "counts_lines" pl) (uncur Q) E s := sc_meth (f := 202) X S G1 G2 (by kernel_rfl) (by decide) h
theorem me_skip_blanks (X : Wd (KK w) b) (S : St b s l) (G1 : (x, inst 289 dx) ∈ l) (G2 : (dx, scD c) ∈ l) (h : Q (.ref 209) [.ref x] s) : wpAny (model prog w) A (getMethod (.ref x) "skip_blanks" pl) (uncur Q) E s := sc_meth (f := 209) X S G1 G2 (by kernel_rfl) (by decide) h
theorem me_skip_remark (X : Wd (KK w) b) (S : St b s l) (G1 : (x, inst 289 dx) ∈ l) (G2 : (dx, scD c) ∈ l) (h : Q (.ref 216) [.ref x] s) : wpAny (model prog w) A (getMethod (.ref x) "skip_remark" pl) (uncur Q) E s := sc_meth (f := 216) X S G1 G2 (by kernel_rfl) (by decide) h
theorem me_next (X : Wd (KK w) b) (S : St b s l) (G1 : (x, inst 289 dx) ∈ l) (G2 : (dx, scD c) ∈ l) (h : Q (.ref 223) [.ref x] s) : wpAny (model prog w) A (getMethod (.ref x) "next" pl) (uncur Q) E s := sc_meth (f := 223) X S G1 G2 (by kernel_rfl) (by decide) h
theorem me_kind_and_value (X : Wd (KK w) b) (S : St b s l) (G1 : (x, inst 289 dx) ∈ l) (G2 : (dx, scD c) ∈ l) (h : Q (.ref 230) [.ref x] s) : wpAny (model prog w) A (getMethod (.ref x) "kind_and_value" pl) (uncur Q) E s := sc_meth (f := 230) X S G1 G2 (by kernel_rfl) (by decide) h
theorem me_name_kind (X : Wd (KK w) b) (S : St b s l) (G1 : (x, inst 289 dx) ∈ l) (G2 : (dx, scD c) ∈ l) (h : Q (.ref 237) [.ref x] s) : wpAny (model prog w) A (getMethod (.ref x) "name_kind" pl) (uncur Q) E s := sc_meth (f := 237) X S G1 G2 (by kernel_rfl) (by decide) h
theorem me_is_index_end (X : Wd (KK w) b) (S : St b s l) (G1 : (x, inst 289 dx) ∈ l) (G2 : (dx, scD c) ∈ l) (h : Q (.ref 244) [.ref x] s) : wpAny (model prog w) A (getMethod (.ref x) "is_index_end" pl) (uncur Q) E s := sc_meth (f := 244) X S G1 G2 (by kernel_rfl) (by decide) h
theorem me_note (X : Wd (KK w) b) (S : St b s l) (G1 : (x, inst 289 dx) ∈ l) (G2 : (dx, scD c) ∈ l) (h : Q (.ref 251) [.ref x] s) : wpAny (model prog w) A (getMethod (.ref x) "note" pl) (uncur Q) E s := sc_meth (f := 251) X S G1 G2 (by kernel_rfl) (by decide) h
theorem me_number (X : Wd (KK w) b) (S : St b s l) (G1 : (x, inst 289 dx) ∈ l) (G2 : (dx, scD c) ∈ l) (h : Q (.ref 258) [.ref x] s) : wpAny (model prog w) A (getMethod (.ref x) "number" pl) (uncur Q) E s := sc_meth (f := 258) X S G1 G2 (by kernel_rfl) (by decide) h
theorem me_escaped (X : Wd (KK w) b) (S : St b s l) (G1 : (x, inst 289 dx) ∈ l) (G2 : (dx, scD c) ∈ l) (h : Q (.ref 265) [.ref x] s) : wpAny (model prog w) A (getMethod (.ref x) "escaped" pl) (uncur Q) E s := sc_meth (f := 265) X S G1 G2 (by kernel_rfl) (by decide) h
theorem me_char_value (X : Wd (KK w) b) (S : St b s l) (G1 : (x, inst 289 dx) ∈ l) (G2 : (dx, scD c) ∈ l) (h : Q (.ref 272) [.ref x] s) : wpAny (model prog w) A (getMethod (.ref x) "char_value" pl) (uncur Q) E s := sc_meth (f := 272) X S G1 G2 (by kernel_rfl) (by decide) h
theorem me_text_value (X : Wd (KK w) b) (S : St b s l) (G1 : (x, inst 289 dx) ∈ l) (G2 : (dx, scD c) ∈ l) (h : Q (.ref 279) [.ref x] s) : wpAny (model prog w) A (getMethod (.ref x) "text_value" pl) (uncur Q) E s := sc_meth (f := 279) X S G1 G2 (by kernel_rfl) (by decide) h
theorem me_put_in (X : Wd (KK w) b) (S : St b s l) (G1 : (x, inst 289 dx) ∈ l) (G2 : (dx, scD c) ∈ l) (h : Q (.ref 286) [.ref x] s) : wpAny (model prog w) A (getMethod (.ref x) "put_in" pl) (uncur Q) E s := sc_meth (f := 286) X S G1 G2 (by kernel_rfl) (by decide) h
end
theorem words_f_scan : True := by
 (k_with "room.f_scan0" => first | assumption | exact Room.mono (by assumption) (by decide) | exact Room.deep (by assumption) (by decide))
 (k_with "sc.f_scan1" => first
  | (focus ((with_reducible refine' sc_text ?_ ?_ ?_ ?_ ?_); (rotate_right 5); (· with_reducible assumption); (· with_reducible assumption); (· with_reducible k_extra "mem"); (· with_reducible k_extra "mem")))
  | (focus ((with_reducible refine' sc_at ?_ ?_ ?_ ?_ ?_); (rotate_right 5); (· with_reducible assumption); (· with_reducible assumption); (· with_reducible k_extra "mem"); (· with_reducible k_extra "mem")))
  | (focus ((with_reducible refine' sc_line ?_ ?_ ?_ ?_ ?_); (rotate_right 5); (· with_reducible assumption); (· with_reducible assumption); (· with_reducible k_extra "mem"); (· with_reducible k_extra "mem")))
  | (focus ((with_reducible refine' sc_ls ?_ ?_ ?_ ?_ ?_); (rotate_right 5); (· with_reducible assumption); (· with_reducible assumption); (· with_reducible k_extra "mem"); (· with_reducible k_extra "mem")))
  | (focus ((with_reducible refine' sc_nested ?_ ?_ ?_ ?_ ?_); (rotate_right 5); (· with_reducible assumption); (· with_reducible assumption); (· with_reducible k_extra "mem"); (· with_reducible k_extra "mem")))
  | (focus ((with_reducible refine' sc_marks ?_ ?_ ?_ ?_ ?_); (rotate_right 5); (· with_reducible assumption); (· with_reducible assumption); (· with_reducible k_extra "mem"); (· with_reducible k_extra "mem")))
  | (focus ((with_reducible refine' sc_set_at ?_ ?_ ?_ ?_ ?_ ?_); (rotate_right 6); (· with_reducible assumption); (· with_reducible assumption); (· with_reducible k_extra "mem"); (· with_reducible k_extra "del"); (· k_extra "cast"); (intro _ _)))
  | (focus ((with_reducible refine' sc_set_line ?_ ?_ ?_ ?_ ?_ ?_); (rotate_right 6); (· with_reducible assumption); (· with_reducible assumption); (· with_reducible k_extra "mem"); (· with_reducible k_extra "del"); (· k_extra "cast"); (intro _ _)))
  | (focus ((with_reducible refine' sc_set_ls ?_ ?_ ?_ ?_ ?_ ?_); (rotate_right 6); (· with_reducible assumption); (· with_reducible assumption); (· with_reducible k_extra "mem"); (· with_reducible k_extra "del"); (· k_extra "cast"); (intro _ _)))
  | (focus ((with_reducible refine' sc_set_last ?_ ?_ ?_ ?_ ?_); (rotate_right 5); (· with_reducible assumption); (· with_reducible assumption); (· with_reducible k_extra "mem"); (· with_reducible k_extra "del"); (intro _ _)))
  | fail "none")
 (k_with "x1.f_scan2" => first
  | (focus ((with_reducible refine' me_sign ?_ ?_ ?_ ?_ ?_); (rotate_right 5); (· with_reducible assumption); (· with_reducible assumption); (· with_reducible k_extra "mem"); (· with_reducible k_extra "mem")))
  | (focus ((with_reducible refine' me_spot ?_ ?_ ?_ ?_ ?_); (rotate_right 5); (· with_reducible assumption); (· with_reducible assumption); (· with_reducible k_extra "mem"); (· with_reducible k_extra "mem")))
  | (focus ((with_reducible refine' me_step ?_ ?_ ?_ ?_ ?_); (rotate_right 5); (· with_reducible assumption); (· with_reducible assumption); (· with_reducible k_extra "mem"); (· with_reducible k_extra "mem")))
  | (focus ((with_reducible refine' me_fault ?_ ?_ ?_ ?_ ?_); (rotate_right 5); (· with_reducible assumption); (· with_reducible assumption); (· with_reducible k_extra "mem"); (· with_reducible k_extra "mem")))
  | (focus ((with_reducible refine' me_counts_lines ?_ ?_ ?_ ?_ ?_); (rotate_right 5); (· with_reducible assumption); (· with_reducible assumption); (· with_reducible k_extra "mem"); (· with_reducible k_extra "mem")))
  | (focus ((with_reducible refine' me_skip_blanks ?_ ?_ ?_ ?_ ?_); (rotate_right 5); (· with_reducible assumption); (· with_reducible assumption); (· with_reducible k_extra "mem"); (· with_reducible k_extra "mem")))
  | (focus ((with_reducible refine' me_skip_remark ?_ ?_ ?_ ?_ ?_); (rotate_right 5); (· with_reducible assumption); (· with_reducible assumption); (· with_reducible k_extra "mem"); (· with_reducible k_extra "mem")))
  | (focus ((with_reducible refine' me_next ?_ ?_ ?_ ?_ ?_); (rotate_right 5); (· with_reducible assumption); (· with_reducible assumption); (· with_reducible k_extra "mem"); (· with_reducible k_extra "mem")))
  | (focus ((with_reducible refine' me_kind_and_value ?_ ?_ ?_ ?_ ?_); (rotate_right 5); (· with_reducible assumption); (· with_reducible assumption); (· with_reducible k_extra "mem"); (· with_reducible k_extra "mem")))
  | (focus ((with_reducible refine' me_name_kind ?_ ?_ ?_ ?_ ?_); (rotate_right 5); (· with_reducible assumption); (· with_reducible assumption); (· with_reducible k_extra "mem"); (· with_reducible k_extra "mem")))
  | (focus ((with_reducible refine' me_is_index_end ?_ ?_ ?_ ?_ ?_); (rotate_right 5); (· with_reducible assumption); (· with_reducible assumption); (· with_reducible k_extra "mem"); (· with_reducible k_extra "mem")))
  | (focus ((with_reducible refine' me_note ?_ ?_ ?_ ?_ ?_); (rotate_right 5); (· with_reducible assumption); (· with_reducible assumption); (· with_reducible k_extra "mem"); (· with_reducible k_extra "mem")))
  | (focus ((with_reducible refine' me_number ?_ ?_ ?_ ?_ ?_); (rotate_right 5); (· with_reducible assumption); (· with_reducible assumption); (· with_reducible k_extra "mem"); (· with_reducible k_extra "mem")))
  | (focus ((with_reducible refine' me_escaped ?_ ?_ ?_ ?_ ?_); (rotate_right 5); (· with_reducible assumption); (· with_reducible assumption); (· with_reducible k_extra "mem"); (· with_reducible k_extra "mem")))
  | (focus ((with_reducible refine' me_char_value ?_ ?_ ?_ ?_ ?_); (rotate_right 5); (· with_reducible assumption); (· with_reducible assumption); (· with_reducible k_extra "mem"); (· with_reducible k_extra "mem")))
  | (focus ((with_reducible refine' me_text_value ?_ ?_ ?_ ?_ ?_); (rotate_right 5); (· with_reducible assumption); (· with_reducible assumption); (· with_reducible k_extra "mem"); (· with_reducible k_extra "mem")))
  | (focus ((with_reducible refine' me_put_in ?_ ?_ ?_ ?_ ?_); (rotate_right 5); (· with_reducible assumption); (· with_reducible assumption); (· with_reducible k_extra "mem"); (· with_reducible k_extra "mem")))
  | fail "none")
 (k_with "sa.f_scan3" => first
  | (focus ((with_reducible refine' r_setattr ?_ ?_ ?_ ?_ ?_ ?_ (.inr rfl) ?_); (rotate_right 7); (· with_reducible assumption); (· with_reducible assumption); (· k_extra "mem"); (· k_extra "del"); (· kernel_rfl); (· decide); (intro _ _)))
  | fail "none")
 (k_with "wa.f_scan4" => repeat first | k_extra "w1" | k_extra "sa")
 trivial
local macro_rules
  | `(tactic| k_extra "room") => `(tactic| k_extra "room.f_scan0")
  | `(tactic| k_extra "sc") => `(tactic| k_extra "sc.f_scan1")
  | `(tactic| k_extra "x1") => `(tactic| k_extra "x1.f_scan2")
  | `(tactic| k_extra "sa") => `(tactic| k_extra "sa.f_scan3")
  | `(tactic| k_extra "wa") => `(tactic| k_extra "wa.f_scan4")
/-- an exception just made: no dict yet, no trace -/
noncomputable def xn (C : Addr) : Cell := fun o => ∃ t, o = excObj C t

section
variable {prog : Program} {w : World} {A : Around} {E : Value → Shared → Prop} {b : Bs} {s : Shared} {l l' : Led} {e t : Addr}

theorem x_osa {R : Result → Shared → Prop} {ox : Obj} {od : Option Obj} {name : Str} {tk : Tok} {v : Value} (X : (KK w).In s.heap) (I : InstAt s.heap e ox 52 od) (ht : takerIn (KK w) 52 name = some none)
    (h : ∀ b, wpAny (model prog w) A.in1 (storeInOwnDict (.ref e) (.ref 52) (.str name tk) name v b)
      (fun fin s' => match fin with | .done f => R (.ok f) s' | .again c' => c'.quiet = true ∧ codeAny (model prog w) A c' R s') (fun e s' => R (.error e) s') s) :
    codeAny (model prog w) A (.call (.builtin "object.__setattr__") ⟨[.ref e, .str name tk, v], []⟩) R s := by
  have SF := PySem.F.store_object
  have sub : Looks (model prog w) s.heap (isInstance (.ref e) (.type "object")) true := I.type.andThen (looks_mroIn X (by kernel_rfl))
  refine codeAny_call_builtin SF.slot.plain SF.entry (@check_slot (model prog w) _ _ s "object.__setattr__" "object" "__setattr__" (.ref e) [.str name tk, v] [] _ SF.kind SF.split sub (SF.args (.ref e) (.str name tk) v) ?_)
  obtain ⟨cd, hc, hcm⟩ : ∃ cd, clsIn (KK w) 52 = some cd ∧ cd.mro = [.ref 52, .ref 39, .type "Exception", .type "BaseException", .type "object"] := ⟨_, rfl, rfl⟩
  have hm : Looks (model prog w) s.heap (mroOf (.ref 52)) cd.mro := (looks_clsIn X hc).andThen .now
  obtain ⟨attr, ha, hr⟩ := Option.bind_eq_some_iff.mp ht
  have L3 : Looks (model prog w) s.heap (storeTaker? attr) none := by
    cases attr with
    | none => cases hr; exact .now
    | some a =>
      obtain ⟨c, hb, hcn⟩ := Option.map_eq_some_iff.mp hr
      cases c with
      | true => cases hcn
      | false => exact (looks_takesIn X hb).andThen .now
  rw [osa_eq, refuse_eq]
  refine wpAny_bind (wpAny_bind (I.type.here (wpAny_bind (hm.here ?_))))
  rw [hcm, refuseLoop_ref, refuseLoop_ref, PySem.F.store_Exception.passes]
  refine wpAny_pure (wpAny_bind (I.type.here (wpAny_bind ((looks_findIn X ha).here (wpAny_bind (L3.here ?_))))))
  exact h _

/-- a name stored into a dict of names -/
theorem x_dict {R : Result → Shared → Prop} {y : Str} {tk : Tok} {v : Value} {dx : Addr} {n n' : Nat} {m : Str → Option Value} (S : St b s ((dx, ids n m) :: l)) (hz : n' ≤ 1000) (hn : (m y).isSome = true ∧ n' = n ∨ n' = n + 1)
    (h : ∀ s', St b s' ((dx, ids n' (up m y v)) :: l) → R (.ok (.ret .none)) s') :
    wpAny (model prog w) A.in1 (storeInDict dx (.str y tk) y v)
      (fun fin s' => match fin with | .done f => R (.ok f) s' | .again c' => c'.quiet = true ∧ codeAny (model prog w) A c' R s') (fun e s' => R (.error e) s') s := by
  obtain ⟨o, ho, es, ep, rfl, hk, hf, hsz⟩ := S.head
  unfold storeInDict newKeyGuard nsSet
  refine wpAny_bind (wpAny_pure (wpAny_bind (wpAny_bind (wpAny_bind (wpAny_askSetting (wpAny_pure (wpAny_bind (wpAny_mkText (wpAny_bind (wpAny_loadPart ho ?_))))))))))
  dsimp only
  rw [aRefKeyMayBeTheName_at, noRef hk, Bool.and_false]
  refine wpAny_updatePart ho ?_
  have P := ids_put (ep := ep) (y := y) (hsh := PyData.keyHash w.params y) (t := s.toks) (v := v) hk hf hsz hn
  have hfr : (Obj.putName y (PyData.keyHash w.params y) (.str y s.toks) v ⟨.type "dict", none, .dict es ep, #[]⟩).isFreed = false := by
    obtain ⟨es', ep', e, _⟩ := P; rw [e]; rfl
  have S2 := S.upd (P' := ids n' (up m y v)) ho hfr P
  obtain ⟨o2, ho2, q2⟩ := S2.head
  obtain ⟨es2, ep2, rfl, _, _, hsz2⟩ := q2
  refine wpAny_bind (wpAny_lookBehind ho2 (pastItsLine_dict (by rw [sizeLine_eq]; omega)) ?_)
  exact wpAny_pure (h _ S2)

theorem x_instAt0 (S : St b s l) (G : (e, xn 52) ∈ l) : ∃ o, xn 52 o ∧ InstAt s.heap e o 52 none :=
  let ⟨o, ho, t, h1⟩ := S.get G; ⟨o, ⟨t, h1⟩, ho, by rw [h1], by rw [h1]; rfl, by rw [h1]; trivial⟩

theorem x_setattr0 {y : Str} {v : Value} {Q : Unit → Shared → Prop} (X : Wd (KK w) b) (S : St b s l) (D : Del l e (xn 52) l') (hk : takerIn (KK w) 52 y = some none)
    (h : ∀ dxe s', St b s' ((e, xc 52 dxe .none) :: (dxe, ids 1 (up (fun _ => none) y v)) :: l') → Q () s') : wpAny (model prog w) A (setAttr (.ref e) y v) Q E s := by
  obtain ⟨o, q, I⟩ := x_instAt0 S D.mem
  have XS := X.inS S
  refine set_plain XS I (by kernel_rfl) (x_osa (s := { s with toks := s.toks + 1 }) XS I hk fun b' => ?_)
  obtain ⟨cd, hc, hd'⟩ : ∃ cd, clsIn (KK w) 52 = some cd ∧ cd.hasDict = true := ⟨_, rfl, rfl⟩
  have hx := I.at_
  obtain ⟨t, rfl⟩ := q
  have S' := S.del D
  refine wpAny_bind (wpAny_pure (wpAny_bind (wpAny_bind (wpAny_loadPart hx (wpAny_bind (Looks.here (s := { s with toks := s.toks + 1 }) (looks_clsIn XS hc) ?_))))))
  rw [hd']
  show wpAny _ _ (alloc { cls := .type "dict", data := .dict #[] } >>= fun d => update e (fun o => { o with dict := some d }) >>= fun _ => dictMade (.ref 52) e d) _ _ _
  refine wpAny_bind (wpAny_alloc (wpAny_bind (wpAny_update (Heap.get?_push_of_some _ hx) ?_)))
  show wpAny _ _ (pure (some s.heap.objs.size)) _ _ _
  refine wpAny_pure ?_
  have S1 := S'.push (o := { cls := .type "dict", data := .dict #[] }) (P := ids 0 fun _ => none) rfl ⟨#[], 0, rfl, (fun e he => absurd he (by simp)), (fun _ => rfl), Nat.le_refl _⟩
  have S2 := (S1.perm (List.Perm.swap _ _ _)).upd (P' := xc 52 s.heap.objs.size .none) (f := fun o => { o with dict := some s.heap.objs.size }) (Heap.get?_push_of_some _ hx) rfl ⟨rfl, rfl, _, rfl, rfl⟩
  have S3 := S2.perm (List.Perm.swap _ _ _)
  refine x_dict (R := fun r s' => match r with | .ok (.ret _) => Q () s' | .ok _ => False | .error e => E e s') (n' := 1) (n := 0) (m := fun _ => none) (l := (e, xc 52 s.heap.objs.size .none) :: l') ?_ (by decide) (.inr rfl) fun s' S4 => h _ s' (S4.perm (List.Perm.swap _ _ _))
  exact S3

theorem x_setattr1 {y : Str} {v : Value} {dxe : Addr} {n n' : Nat} {m : Str → Option Value} {Q : Unit → Shared → Prop} (X : Wd (KK w) b) (S : St b s ((e, xc 52 dxe .none) :: (dxe, ids n m) :: l)) (hk : takerIn (KK w) 52 y = some none) (hz : n' ≤ 1000) (hn : (m y).isSome = true ∧ n' = n ∨ n' = n + 1)
    (h : ∀ s', St b s' ((e, xc 52 dxe .none) :: (dxe, ids n' (up m y v)) :: l) → Q () s') : wpAny (model prog w) A (setAttr (.ref e) y v) Q E s := by
  obtain ⟨o, ho, hc, hdd, vs, hdt, hv⟩ := S.head
  obtain ⟨od, hod, q⟩ := S.get (a := dxe) (P := ids n m) (.tail _ (.head _))
  have I : InstAt s.heap e o 52 (some od) := ⟨ho, hc, by obtain ⟨c, d, dt, sl⟩ := o; cases hdt; rfl, by rw [hdd]; exact hod⟩
  have XS := X.inS S
  refine set_plain XS I (by kernel_rfl) (x_osa (s := { s with toks := s.toks + 1 }) XS I hk fun b' => ?_)
  obtain ⟨cd, hcd, hd'⟩ : ∃ cd, clsIn (KK w) 52 = some cd ∧ cd.hasDict = true := ⟨_, rfl, rfl⟩
  obtain ⟨c, d, dt, sl⟩ := o
  cases hc; cases hdd; cases hdt
  refine wpAny_bind (wpAny_pure (wpAny_bind (wpAny_bind (wpAny_loadPart ho (wpAny_bind (Looks.here (s := { s with toks := s.toks + 1 }) (looks_clsIn XS hcd) ?_))))))
  rw [hd']
  refine wpAny_pure (a := some dxe) ?_
  have S3 : St b s ((dxe, ids n m) :: (e, xc 52 dxe .none) :: l) := S.perm (List.Perm.swap _ _ _)
  exact x_dict (R := fun r s' => match r with | .ok (.ret _) => Q () s' | .ok _ => False | .error e => E e s') (s := { s with toks := s.toks + 1 }) S3 hz hn fun s' S4 => h s' (S4.perm (List.Perm.swap _ _ _))
end
section
variable {prog : Program} {w : World} {M : Model} {A : Around} {E : Value → Shared → Prop} {b : Bs} {s : Shared} {l l' : Led} {e t : Addr}
section
variable {h : Heap} {g : Array GenState} {d : Drawn} {tk : Nat} {os : OsState} {nm q : Str} {C N P : Addr} {bs : List Value} {hdct : Bool} {sn : List Str} {sub : List Value} {ab : Bool} {col : Option Bool} {dd : Option Addr} {k0 k1 k2 k3 k5 : Option Value}
theorem x_check_init {oe : Obj} {rest : List Value} {Q : Unit → Shared → Prop} (hC : h.get? C = some (excClassObj nm q C N bs (.ref P :: bmE) hdct sn sub ab col dd k0 k1 k2 k3 k5 "Exception.__new__")) (he : h.get? e = some oe) (hcls : oe.cls = .ref C) (hq : Q () ⟨h, g, d, tk, os⟩) :
    wpAny M A (checkBuiltinCall "Exception.__init__" ⟨.ref e :: rest, []⟩) Q E ⟨h, g, d, tk, os⟩ := by
  have F := PySem.F.excBase_Exception
  have hcB : (Value.ref C :: .ref P :: bmE).contains (.type "Exception") = true := by simp
  have hshort := F.noStar
  simp only [checkBuiltinCall, F.initKind, F.initSplit, F.initRow]
  repeat (first | (with_reducible refine wpAny_loadPart_at he ?_; rw [hcls]) | with_reducible refine wpAny_loadPart_at hC ?_ | (with_reducible refine wpAny_isSubtype_exc hC ?_; rw [hcB]) | wp_step)
  refine wpAny_onRaise ?_
  rw [show ∀ (a b : String) (n : Nat), Bind.check ⟨.positional, "*", "Exception", .self, [⟨"args", .varPos, false⟩]⟩ a b n (List.map (fun x => x.fst) ({ pos := Value.ref e :: rest } : Args).kw) = pure () from
    fun a b n => check_star_args _ _ _ _ _ _]
  exact wpAny_pure hq
theorem x_init_at {v : Value} {t0 : Addr} {Q : Value → Shared → Prop} (hC : h.get? C = some (excClassObj nm q C N bs (.ref P :: bmE) hdct sn sub ab col dd k0 k1 k2 k3 k5 "Exception.__new__")) (he : h.get? e = some (excObj C t0))
    (hq : Q .none ⟨(h.push (tupObj [v])).update e (Obj.mapFields (·.setIfInBounds 0 (.ref h.objs.size))), g, d, tk, os⟩) : wpAny (model prog w) A (call (.builtin "Exception.__init__") [.ref e, v]) Q E ⟨h, g, d, tk, os⟩ := by
  have F := PySem.F.excBase_Exception
  refine wpAny_call (codeAny_call_builtin F.init.plain F.initEntry (x_check_init hC he rfl ?_))
  unfold Builtin.«BaseException.__init__»
  wp_walk
  exact hq
end
theorem x_init {v : Value} {Q : Value → Shared → Prop} (X : Wd (KK w) b) (S : St b s l) (D : Del l e (xn 52) l') (h : ∀ s', St b s' ((e, xn 52) :: l') → Q .none s') :
    wpAny (model prog w) A (call (.builtin "Exception.__init__") [.ref e, v]) Q E s := by
  have S' := S.del D
  obtain ⟨o, ho, t0, rfl⟩ := S'.head
  obtain ⟨hp, g, d, tk, os⟩ := s
  refine x_init_at (X.inS S 52 _ rfl) ho (h _ ?_)
  have S1 := S'.push (o := tupObj [v]) (P := fun _ => True) rfl trivial
  exact ((S1.perm (List.Perm.swap _ _ _)).upd (P' := xn 52) (f := Obj.mapFields (·.setIfInBounds 0 (.ref hp.objs.size))) (Heap.get?_push_of_some _ ho) rfl ⟨hp.objs.size, rfl⟩).perm (List.Perm.swap _ _ _) |>.drop
end
section
variable {prog : Program} {w : World} {A : Around} {E : Value → Shared → Prop} {b : Bs} {s : Shared} {l l' : Led} {e t dxe : Addr} {env : Env}
theorem m_exinit {pl : Sem Bool} {Q : Value → List Value → Shared → Prop} (X : Wd (KK w) b) (S : St b s l) (h : ∀ s', St b s' l → Q (.builtin "Exception.__init__") [] s') : wpAny (model prog w) A (getMethod (.type "Exception") "__init__" pl) (uncur Q) E s := by
  have XS := X.inS S
  have ht : typeOf (.type "Exception") = pure (.type "type") := by kernel_rfl
  have hs : Manifest.isStub "Exception" = false := by decide +kernel
  have hstub : opaqueClassAbove (.type "Exception") = pure none := by unfold opaqueClassAbove; dsimp only; rw [hs]; rfl
  have L0 : Looks (model prog w) s.heap (typeOf (.type "Exception")) (.type "type") := Looks.of_pure ht
  have hg : findIn (KK w) (.type "type") "__getattribute__" = some (some (.builtin "type.__getattribute__")) := type_tga
  unfold getMethod specialOf
  refine wpAny_bind (wpAny_bind (L0.here ((looks_findIn XS hg).here ?_)))
  dsimp only
  rw [if_pos canon_tga]
  refine wpAny_bind (wpAny_mono (Q := fun v s => uncur Q (v, []) s) (E := E) ?_ (fun _ _ z => wpAny_pure z) fun _ _ z => z)
  have LO : Looks (model prog w) s.heap (opaqueClassAbove (.type "Exception")) none := Looks.of_pure hstub
  refine cls_open XS LO L0 hg (looks_hook XS (r := none) (by rfl)) (by show subIn (KK w) _ _ = _; rfl) (show findCls (KK w) (.type "Exception") (.type "type") "__init__" = some (.val (.builtin "Exception.__init__")) by kernel_rfl)
    (wpAny_pure (by show wpAny _ _ (handedOut _) _ _ _; rw [handedOut_of rfl]; exact wpAny_pure (h _ S)))

theorem r_raise {x : Expr} {pos : Pos} {Q : Flow → Shared → Prop} (hh : A.handled = none) (X : Wd (KK w) b)
    (h : wpAny (model prog w) A (eval x env) (fun v s₁ => ∃ e dxe l, v = .ref e ∧ St b s₁ ((e, xc 52 dxe .none) :: l) ∧ E (.ref e) s₁) E s) :
    wpAny (model prog w) A (exec (.Raise (some x) none pos) env) Q E s := by
  rw [arm_exec_Raise]
  refine wpAny_bind (wpAny_standAt ?_)
  unfold raiseStmt
  dsimp only [evalOpt, Option.map]
  refine wpAny_bind (wpAny_bind (wpAny_mono h (fun v s₁ h₁ => wpAny_bind (wpAny_standAt (wpAny_pure ?_))) fun _ _ x => x))
  obtain ⟨e, dxe, l, rfl, S, hE⟩ := h₁
  have hC : s₁.heap.get? 52 = some (excClassObj _ _ 52 51 _ (.ref 39 :: bmE) _ _ _ _ _ _ _ _ _ _ _ _) := X.inS S 52 _ rfl
  obtain ⟨⟨c, dd, dt, sl⟩, ho, h1, h2, vs, h3, h4⟩ := S.head
  cases h1; cases h2; cases h3
  obtain ⟨hp, g, d, tk, os⟩ := s₁
  have hcB : (Value.ref 52 :: .ref 39 :: bmE).contains (.type "BaseException") = true := by rfl
  have F : ∀ Q : Unit → Shared → Prop, Q () ⟨hp, g, d, tk, os⟩ → wpAny (model prog w) A (setFlight (.ref e) none) Q E ⟨hp, g, d, tk, os⟩ := fun Q q => x_flight0 S q
  repeat (first | with_reducible refine F _ ?_ | with_reducible exact wpAny_raiseNew_none hh hE | with_reducible refine wpAny_loadPart_at ho ?_ | with_reducible refine wpAny_loadPart_at hC ?_ | (with_reducible refine wpAny_isSubtype_exc hC ?_; rw [hcB]) | wp_step)
end
section
variable {prog : Program} {w : World} {M : Model} {A : Around} {E : Value → Shared → Prop} {b : Bs} {s : Shared} {l : Led} {name : Str} {scope : Scope} {L f : Addr} {cd : Value} {pos : Pos} {Q : Value → Shared → Prop}
theorem gl_WordFault (X : Wd (KK w) b) (S : St b s l) (hk : globOk scope "WordFault" = true) (h : Q (.ref 52) s) : wpAny M A (eval (.Name "WordFault" pos) (envOf name scope L f cd)) Q E s := r_glo X S (by kernel_rfl) hk h
theorem gl_MachineFault (X : Wd (KK w) b) (S : St b s l) (hk : globOk scope "MachineFault" = true) (h : Q (.ref 64) s) : wpAny M A (eval (.Name "MachineFault" pos) (envOf name scope L f cd)) Q E s := r_glo X S (by kernel_rfl) hk h
theorem gl_MOST_CODE_octets (X : Wd (KK w) b) (S : St b s l) (hk : globOk scope "MOST_CODE_octets" = true) (h : ∀ t, Q (.int 1114111 t) s) : wpAny M A (eval (.Name "MOST_CODE_octets" pos) (envOf name scope L f cd)) Q E s := r_glo X S (v := .int 1114111 261) (by kernel_rfl) hk (h _)
theorem gl_FIRST_BAD (X : Wd (KK w) b) (S : St b s l) (hk : globOk scope "FIRST_BAD" = true) (h : ∀ t, Q (.int 55296 t) s) : wpAny M A (eval (.Name "FIRST_BAD" pos) (envOf name scope L f cd)) Q E s := r_glo X S (v := .int 55296 263) (by kernel_rfl) hk (h _)
theorem gl_LAST_BAD (X : Wd (KK w) b) (S : St b s l) (hk : globOk scope "LAST_BAD" = true) (h : ∀ t, Q (.int 57343 t) s) : wpAny M A (eval (.Name "LAST_BAD" pos) (envOf name scope L f cd)) Q E s := r_glo X S (v := .int 57343 265) (by kernel_rfl) hk (h _)
theorem gl_LIMITS (X : Wd (KK w) b) (S : St b s l) (hk : globOk scope "LIMITS" = true) (h : Q (.ref 67) s) : wpAny M A (eval (.Name "LIMITS" pos) (envOf name scope L f cd)) Q E s := r_glo X S (by kernel_rfl) hk h
theorem gl_is_bad (X : Wd (KK w) b) (S : St b s l) (hk : globOk scope "is_bad" = true) (h : Q (.ref 74) s) : wpAny M A (eval (.Name "is_bad" pos) (envOf name scope L f cd)) Q E s := r_glo X S (by kernel_rfl) hk h
theorem gl_size_of_code (X : Wd (KK w) b) (S : St b s l) (hk : globOk scope "size_of_code" = true) (h : Q (.ref 81) s) : wpAny M A (eval (.Name "size_of_code" pos) (envOf name scope L f cd)) Q E s := r_glo X S (by kernel_rfl) hk h
theorem gl_encoded (X : Wd (KK w) b) (S : St b s l) (hk : globOk scope "encoded" = true) (h : Q (.ref 88) s) : wpAny M A (eval (.Name "encoded" pos) (envOf name scope L f cd)) Q E s := r_glo X S (by kernel_rfl) hk h
theorem gl_KEYS (X : Wd (KK w) b) (S : St b s l) (hk : globOk scope "KEYS" = true) (h : Q (.ref 89) s) : wpAny M A (eval (.Name "KEYS" pos) (envOf name scope L f cd)) Q E s := r_glo X S (by kernel_rfl) hk h
theorem gl_OPENERS (X : Wd (KK w) b) (S : St b s l) (hk : globOk scope "OPENERS" = true) (h : Q (.ref 90) s) : wpAny M A (eval (.Name "OPENERS" pos) (envOf name scope L f cd)) Q E s := r_glo X S (by kernel_rfl) hk h
theorem gl_SIGNS (X : Wd (KK w) b) (S : St b s l) (hk : globOk scope "SIGNS" = true) (h : Q (.ref 91) s) : wpAny M A (eval (.Name "SIGNS" pos) (envOf name scope L f cd)) Q E s := r_glo X S (by kernel_rfl) hk h
theorem gl_BRACKETS (X : Wd (KK w) b) (S : St b s l) (hk : globOk scope "BRACKETS" = true) (h : Q (.ref 92) s) : wpAny M A (eval (.Name "BRACKETS" pos) (envOf name scope L f cd)) Q E s := r_glo X S (by kernel_rfl) hk h
theorem gl_DIGITS (X : Wd (KK w) b) (S : St b s l) (hk : globOk scope "DIGITS" = true) (h : ∀ t, Q (.str "0123456789" t) s) : wpAny M A (eval (.Name "DIGITS" pos) (envOf name scope L f cd)) Q E s := r_glo X S (v := .str "0123456789" 420) (by kernel_rfl) hk (h _)
theorem gl_HEX_DIGITS (X : Wd (KK w) b) (S : St b s l) (hk : globOk scope "HEX_DIGITS" = true) (h : ∀ t, Q (.str "0123456789abcdef" t) s) : wpAny M A (eval (.Name "HEX_DIGITS" pos) (envOf name scope L f cd)) Q E s := r_glo X S (v := .str "0123456789abcdef" 422) (by kernel_rfl) hk (h _)
theorem gl_BASES (X : Wd (KK w) b) (S : St b s l) (hk : globOk scope "BASES" = true) (h : Q (.ref 93) s) : wpAny M A (eval (.Name "BASES" pos) (envOf name scope L f cd)) Q E s := r_glo X S (by kernel_rfl) hk h
theorem gl_PLAIN_ESCAPES (X : Wd (KK w) b) (S : St b s l) (hk : globOk scope "PLAIN_ESCAPES" = true) (h : Q (.ref 94) s) : wpAny M A (eval (.Name "PLAIN_ESCAPES" pos) (envOf name scope L f cd)) Q E s := r_glo X S (by kernel_rfl) hk h
theorem gl_MOST_FIGURES (X : Wd (KK w) b) (S : St b s l) (hk : globOk scope "MOST_FIGURES" = true) (h : ∀ t, Q (.int 1200 t) s) : wpAny M A (eval (.Name "MOST_FIGURES" pos) (envOf name scope L f cd)) Q E s := r_glo X S (v := .int 1200 468) (by kernel_rfl) hk (h _)
theorem gl_MOST_NESTED (X : Wd (KK w) b) (S : St b s l) (hk : globOk scope "MOST_NESTED" = true) (h : ∀ t, Q (.int 12 t) s) : wpAny M A (eval (.Name "MOST_NESTED" pos) (envOf name scope L f cd)) Q E s := r_glo X S (v := .int 12 470) (by kernel_rfl) hk (h _)
theorem gl_MOST_CODE_words (X : Wd (KK w) b) (S : St b s l) (hk : globOk scope "MOST_CODE_words" = true) (h : ∀ t, Q (.int 1114111 t) s) : wpAny M A (eval (.Name "MOST_CODE_words" pos) (envOf name scope L f cd)) Q E s := r_glo X S (v := .int 1114111 472) (by kernel_rfl) hk (h _)
theorem gl_Word (X : Wd (KK w) b) (S : St b s l) (hk : globOk scope "Word" = true) (h : Q (.ref 126) s) : wpAny M A (eval (.Name "Word" pos) (envOf name scope L f cd)) Q E s := r_glo X S (by kernel_rfl) hk h
theorem gl_is_name_start (X : Wd (KK w) b) (S : St b s l) (hk : globOk scope "is_name_start" = true) (h : Q (.ref 137) s) : wpAny M A (eval (.Name "is_name_start" pos) (envOf name scope L f cd)) Q E s := r_glo X S (by kernel_rfl) hk h
theorem gl_is_name_sign (X : Wd (KK w) b) (S : St b s l) (hk : globOk scope "is_name_sign" = true) (h : Q (.ref 144) s) : wpAny M A (eval (.Name "is_name_sign" pos) (envOf name scope L f cd)) Q E s := r_glo X S (by kernel_rfl) hk h
theorem gl_ends_operand (X : Wd (KK w) b) (S : St b s l) (hk : globOk scope "ends_operand" = true) (h : Q (.ref 151) s) : wpAny M A (eval (.Name "ends_operand" pos) (envOf name scope L f cd)) Q E s := r_glo X S (by kernel_rfl) hk h
theorem gl_Scanner (X : Wd (KK w) b) (S : St b s l) (hk : globOk scope "Scanner" = true) (h : Q (.ref 289) s) : wpAny M A (eval (.Name "Scanner" pos) (envOf name scope L f cd)) Q E s := r_glo X S (by kernel_rfl) hk h
theorem gl_words_of (X : Wd (KK w) b) (S : St b s l) (hk : globOk scope "words_of" = true) (h : Q (.ref 300) s) : wpAny M A (eval (.Name "words_of" pos) (envOf name scope L f cd)) Q E s := r_glo X S (by kernel_rfl) hk h
theorem gl_Exception (X : Wd (KK w) b) (S : St b s l) (hk : globOk scope "Exception" = true) (h : Q (.type "Exception") s) : wpAny M A (eval (.Name "Exception" pos) (envOf name scope L f cd)) Q E s := r_blt X S (v := .type "Exception") (by kernel_rfl) (by decide +kernel) (by decide) hk h
theorem gl_bytes (X : Wd (KK w) b) (S : St b s l) (hk : globOk scope "bytes" = true) (h : Q (.type "bytes") s) : wpAny M A (eval (.Name "bytes" pos) (envOf name scope L f cd)) Q E s := r_blt X S (v := .type "bytes") (by kernel_rfl) (by decide +kernel) (by decide) hk h
theorem gl_enumerate (X : Wd (KK w) b) (S : St b s l) (hk : globOk scope "enumerate" = true) (h : Q (.type "enumerate") s) : wpAny M A (eval (.Name "enumerate" pos) (envOf name scope L f cd)) Q E s := r_blt X S (v := .type "enumerate") (by kernel_rfl) (by decide +kernel) (by decide) hk h
theorem gl_range (X : Wd (KK w) b) (S : St b s l) (hk : globOk scope "range" = true) (h : Q (.type "range") s) : wpAny M A (eval (.Name "range" pos) (envOf name scope L f cd)) Q E s := r_blt X S (v := .type "range") (by kernel_rfl) (by decide +kernel) (by decide) hk h
theorem gl_tuple (X : Wd (KK w) b) (S : St b s l) (hk : globOk scope "tuple" = true) (h : Q (.type "tuple") s) : wpAny M A (eval (.Name "tuple" pos) (envOf name scope L f cd)) Q E s := r_blt X S (v := .type "tuple") (by kernel_rfl) (by decide +kernel) (by decide) hk h
theorem gl_ord (X : Wd (KK w) b) (S : St b s l) (hk : globOk scope "ord" = true) (h : Q (.builtin "ord") s) : wpAny M A (eval (.Name "ord" pos) (envOf name scope L f cd)) Q E s := r_blt X S (v := .builtin "ord") (by kernel_rfl) (by decide +kernel) (by decide) hk h
theorem gl_len (X : Wd (KK w) b) (S : St b s l) (hk : globOk scope "len" = true) (h : Q (.builtin "len") s) : wpAny M A (eval (.Name "len" pos) (envOf name scope L f cd)) Q E s := r_blt X S (v := .builtin "len") (by kernel_rfl) (by decide +kernel) (by decide) hk h
end
theorem words_f5_gl : True := by
 (k_with "na.f5_gl0" => first
  | (focus ((with_reducible refine' gl_WordFault ?_ ?_ ?_ ?_); (rotate_right 4); (· with_reducible assumption); (· with_reducible assumption); (· kernel_rfl)))
  | (focus ((with_reducible refine' gl_MachineFault ?_ ?_ ?_ ?_); (rotate_right 4); (· with_reducible assumption); (· with_reducible assumption); (· kernel_rfl)))
  | (focus ((with_reducible refine' gl_MOST_CODE_octets ?_ ?_ ?_ ?_); (rotate_right 4); (· with_reducible assumption); (· with_reducible assumption); (· kernel_rfl); (intro _)))
  | (focus ((with_reducible refine' gl_FIRST_BAD ?_ ?_ ?_ ?_); (rotate_right 4); (· with_reducible assumption); (· with_reducible assumption); (· kernel_rfl); (intro _)))
  | (focus ((with_reducible refine' gl_LAST_BAD ?_ ?_ ?_ ?_); (rotate_right 4); (· with_reducible assumption); (· with_reducible assumption); (· kernel_rfl); (intro _)))
  | (focus ((with_reducible refine' gl_LIMITS ?_ ?_ ?_ ?_); (rotate_right 4); (· with_reducible assumption); (· with_reducible assumption); (· kernel_rfl)))
  | (focus ((with_reducible refine' gl_is_bad ?_ ?_ ?_ ?_); (rotate_right 4); (· with_reducible assumption); (· with_reducible assumption); (· kernel_rfl)))
  | (focus ((with_reducible refine' gl_size_of_code ?_ ?_ ?_ ?_); (rotate_right 4); (· with_reducible assumption); (· with_reducible assumption); (· kernel_rfl)))
  | (focus ((with_reducible refine' gl_encoded ?_ ?_ ?_ ?_); (rotate_right 4); (· with_reducible assumption); (· with_reducible assumption); (· kernel_rfl)))
  | (focus ((with_reducible refine' gl_KEYS ?_ ?_ ?_ ?_); (rotate_right 4); (· with_reducible assumption); (· with_reducible assumption); (· kernel_rfl)))
  | (focus ((with_reducible refine' gl_OPENERS ?_ ?_ ?_ ?_); (rotate_right 4); (· with_reducible assumption); (· with_reducible assumption); (· kernel_rfl)))
  | (focus ((with_reducible refine' gl_SIGNS ?_ ?_ ?_ ?_); (rotate_right 4); (· with_reducible assumption); (· with_reducible assumption); (· kernel_rfl)))
  | (focus ((with_reducible refine' gl_BRACKETS ?_ ?_ ?_ ?_); (rotate_right 4); (· with_reducible assumption); (· with_reducible assumption); (· kernel_rfl)))
  | (focus ((with_reducible refine' gl_DIGITS ?_ ?_ ?_ ?_); (rotate_right 4); (· with_reducible assumption); (· with_reducible assumption); (· kernel_rfl); (intro _)))
  | (focus ((with_reducible refine' gl_HEX_DIGITS ?_ ?_ ?_ ?_); (rotate_right 4); (· with_reducible assumption); (· with_reducible assumption); (· kernel_rfl); (intro _)))
  | (focus ((with_reducible refine' gl_BASES ?_ ?_ ?_ ?_); (rotate_right 4); (· with_reducible assumption); (· with_reducible assumption); (· kernel_rfl)))
  | (focus ((with_reducible refine' gl_PLAIN_ESCAPES ?_ ?_ ?_ ?_); (rotate_right 4); (· with_reducible assumption); (· with_reducible assumption); (· kernel_rfl)))
  | (focus ((with_reducible refine' gl_MOST_FIGURES ?_ ?_ ?_ ?_); (rotate_right 4); (· with_reducible assumption); (· with_reducible assumption); (· kernel_rfl); (intro _)))
  | (focus ((with_reducible refine' gl_MOST_NESTED ?_ ?_ ?_ ?_); (rotate_right 4); (· with_reducible assumption); (· with_reducible assumption); (· kernel_rfl); (intro _)))
  | (focus ((with_reducible refine' gl_MOST_CODE_words ?_ ?_ ?_ ?_); (rotate_right 4); (· with_reducible assumption); (· with_reducible assumption); (· kernel_rfl); (intro _)))
  | (focus ((with_reducible refine' gl_Word ?_ ?_ ?_ ?_); (rotate_right 4); (· with_reducible assumption); (· with_reducible assumption); (· kernel_rfl)))
  | (focus ((with_reducible refine' gl_is_name_start ?_ ?_ ?_ ?_); (rotate_right 4); (· with_reducible assumption); (· with_reducible assumption); (· kernel_rfl)))
  | (focus ((with_reducible refine' gl_is_name_sign ?_ ?_ ?_ ?_); (rotate_right 4); (· with_reducible assumption); (· with_reducible assumption); (· kernel_rfl)))
  | (focus ((with_reducible refine' gl_ends_operand ?_ ?_ ?_ ?_); (rotate_right 4); (· with_reducible assumption); (· with_reducible assumption); (· kernel_rfl)))
  | (focus ((with_reducible refine' gl_Scanner ?_ ?_ ?_ ?_); (rotate_right 4); (· with_reducible assumption); (· with_reducible assumption); (· kernel_rfl)))
  | (focus ((with_reducible refine' gl_words_of ?_ ?_ ?_ ?_); (rotate_right 4); (· with_reducible assumption); (· with_reducible assumption); (· kernel_rfl)))
  | (focus ((with_reducible refine' gl_Exception ?_ ?_ ?_ ?_); (rotate_right 4); (· with_reducible assumption); (· with_reducible assumption); (· kernel_rfl)))
  | (focus ((with_reducible refine' gl_bytes ?_ ?_ ?_ ?_); (rotate_right 4); (· with_reducible assumption); (· with_reducible assumption); (· kernel_rfl)))
  | (focus ((with_reducible refine' gl_enumerate ?_ ?_ ?_ ?_); (rotate_right 4); (· with_reducible assumption); (· with_reducible assumption); (· kernel_rfl)))
  | (focus ((with_reducible refine' gl_range ?_ ?_ ?_ ?_); (rotate_right 4); (· with_reducible assumption); (· with_reducible assumption); (· kernel_rfl)))
  | (focus ((with_reducible refine' gl_tuple ?_ ?_ ?_ ?_); (rotate_right 4); (· with_reducible assumption); (· with_reducible assumption); (· kernel_rfl)))
  | (focus ((with_reducible refine' gl_ord ?_ ?_ ?_ ?_); (rotate_right 4); (· with_reducible assumption); (· with_reducible assumption); (· kernel_rfl)))
  | (focus ((with_reducible refine' gl_len ?_ ?_ ?_ ?_); (rotate_right 4); (· with_reducible assumption); (· with_reducible assumption); (· kernel_rfl)))
  | fail "none")
 trivial
local macro_rules
  | `(tactic| k_extra "na") => `(tactic| k_extra "na.f5_gl0")
section
variable {prog : Program} {w : World} {A : Around} {E : Value → Shared → Prop} {b : Bs} {s : Shared} {l l' : Led} {t : Addr} {Q : Value → Shared → Prop}
theorem Room.made {d d' : Nat} (h : Room A d) (hd : d' + 1 ≤ d) : Room (amade A) d' := by
  unfold Room at *
  have h1 : (amade A).depth = A.depth + 1 := rfl
  have h2 : (amade A).units = A.units + 1 := rfl
  rw [h1, h2]; omega

theorem ids_mono {n n' : Nat} {m : Str → Option Value} {o : Obj} (hn : n ≤ n') (h : ids n m o) : ids n' m o :=
  let ⟨es, ep, h1, h2, h3, h4⟩ := h; ⟨es, ep, h1, h2, h3, Nat.le_trans h4 hn⟩
theorem werr_init {msg : Value} {e : Addr} {args : List Value} (X : Wd (KK w) b) (S : St b s l) (D : Del l e (xn 52) l') (hr : Room A 1) (ha : args = [.ref e, msg, .ref t])
    (h : ∀ dxe m s', m "spot" = some (.ref t) → St b s' ((e, xc 52 dxe .none) :: (dxe, ids 10 m) :: l') → Q .none s') : wpAny (model prog w) A (call (.ref 36) args) Q E s := by
  subst ha
  refine' r_calld X S ?a1 ?a2 ?a3 ?a4 ?a5 ?a6 ?a7 ?a8 ?a9 ?h
  case a1 => exact rfl
  case a2 => kernel_rfl
  case a3 => exact hr.lim
  case a4 => exact kp_binds (X.inS S) fun _ => by kernel_rfl
  case a5 => kernel_rfl
  case a6 => kernel_rfl
  case a7 => rfl
  case a8 => rfl
  case a9 => rfl
  intro s1 L S1
  k_extra "w"
  refine m_exinit (by assumption) (by assumption) ?_
  intro _ _
  k_extra "w"
  refine' x_init (by assumption) (by assumption) ?d ?_
  case d => k_extra "del"
  intro _ _
  k_extra "w"
  refine' x_setattr0 (by assumption) (by assumption) ?d ?k ?_
  case d => k_extra "del"
  case k => kernel_rfl
  intro dxe _ _
  k_extra "w"
  refine' x_setattr1 (n' := 2) (by assumption) (by assumption) ?k (by decide) (.inr rfl) ?_
  case k => kernel_rfl
  intro s9 S9
  k_extra "w"
  have S10 : St b s9 ((dxe, ids 2 _) :: (e, xc 52 dxe .none) :: l') := S9.ext (.cons (.tail .head) (.cons .head (.drop .all)))
  exact h dxe _ s9 (up_self) ((S10.weak fun o q => ids_mono (by decide) q).perm (List.Perm.swap _ _ _))

theorem werr_c {msg : Value} {args : List Value} (X : Wd (KK w) b) (S : St b s l) (hr : Room A 2) (ha : args = [msg, .ref t])
    (h : ∀ e dxe m s', m "spot" = some (.ref t) → St b s' ((e, xc 52 dxe .none) :: (dxe, ids 10 m) :: l) → Q (.ref e) s') : wpAny (model prog w) A (call (.ref 52) args) Q E s := by
  subst ha
  have hC : s.heap.get? 52 = some (excClassObj _ _ 52 51 _ (.ref 39 :: bmE) _ _ _ _ _ _ _ _ _ _ _ "Exception.__new__") := X.inS S 52 _ rfl
  have hi : Looks (model prog w) s.heap (typeLookup (.ref 52) "__init__") (some (.ref 36)) := looks_findIn (X.inS S) (by kernel_rfl)
  have hb : ∀ self, Looks (model prog w) s.heap (bindSpecial (.ref 36) self) (.ref 36, [self]) := fun self => bind_fn (X.inS S) self (by kernel_rfl)
  obtain ⟨hp, g, d, tk, os⟩ := s
  refine x_make hC (by rw [sizeLine_eq]; simp) hi hb ?_
  have S1 : St b ⟨(hp.push (tupObj [msg, .ref t])).push (excObj 52 hp.objs.size), g, d, tk, os⟩ ((hp.objs.size + 1, xn 52) :: l) := by
    have S2 := S.push (o := tupObj [msg, .ref t]) (P := fun _ => True) rfl trivial
    have S3 := S2.drop.push (o := excObj 52 hp.objs.size) (P := xn 52) rfl ⟨_, rfl⟩
    rwa [Heap.size_push] at S3
  exact werr_init X S1 .head (hr.made (by decide)) rfl fun dxe m s' hs S' => ⟨rfl, h _ _ _ _ hs S'⟩
end
noncomputable def sg (c : Sc) (k : Nat) : List Nat := (c.r.drop k).take 1
theorem sg_eq (c : Sc) (k : Nat) : sg c k = (c.tl.drop (c.at_ + k)).take 1 := by simp [sg, Sc.r, List.drop_drop]
theorem sg_len {c : Sc} {k : Nat} : (sg c k).length ≤ 1 := List.length_take_le _ _
section
variable {prog : Program} {w : World} {A : Around} {E : Value → Shared → Prop} {b : Bs} {s : Shared} {l l' : Led} {x dx f : Addr} {c : Sc} {Q : Value → Shared → Prop}

theorem sign_c {k : Nat} {i : Int} {tk : Tok} {args : List Value} (X : Wd (KK w) b) (S : St b s l) (G1 : (x, inst 289 dx) ∈ l) (G2 : (dx, scD c) ∈ l) (hl : c.tl.length ≤ 1048576) (hr : Room A 1)
    (ha : (args = [.ref x, .int i tk] ∧ i = (k : Int)) ∨ (args = [.ref x] ∧ k = 0 ∧ tk = 570)) (h : ∀ t s', St b s' l → Q (.str (tx (sg c k)) t) s') : wpAny (model prog w) A (call (.ref 174) args) Q E s := by
  refine' r_call (binds := [("self", .ref x), ("ahead", .int k tk)]) X S ?a1 ?a2 ?a3 ?a4 ?a5 ?a6 ?a7 ?a8 ?a9 ?h
  case a1 => exact rfl
  case a2 => kernel_rfl
  case a3 => exact hr.lim
  case a4 => rcases ha with ⟨rfl, rfl⟩ | ⟨rfl, rfl, rfl⟩ <;> exact kp_binds (X.inS S) fun _ => by kernel_rfl
  case a5 => exact locs rfl
  case a6 => decide
  case a7 => rfl
  case a8 => rfl
  case a9 => rfl
  case h =>
    intro s1 L S1
    k_extra "w"
    rw [← sg_eq]
    exact h _ _ (by k_extra "st!")
end
section
variable {prog : Program} {w : World} {A : Around} {E : Value → Shared → Prop} {b : Bs} {s : Shared} {l l' : Led} {x dx f : Addr} {c : Sc} {Q : Value → Shared → Prop}
theorem spot_c {args : List Value} (X : Wd (KK w) b) (S : St b s l) (G1 : (x, inst 289 dx) ∈ l) (G2 : (dx, scD c) ∈ l) (hr : Room A 1) (ha : args = [.ref x])
    (h : ∀ t t1 t2 s', St b s' ((t, tup [.int c.line t1, .int ((c.at_ : Int) - c.ls + 1) t2]) :: l) → Q (.ref t) s') : wpAny (model prog w) A (call (.ref 181) args) Q E s := by
  subst ha
  k_extra "enter"
  k_extra "w"
  exact h _ _ _ _ (by k_extra "st!")
end
section
variable {prog : Program} {w : World} {A : Around} {E : Value → Shared → Prop} {b : Bs} {s : Shared} {l l' : Led} {x dx f : Addr} {c : Sc} {Q : Value → Shared → Prop}
theorem sign_0 {args : List Value} (X : Wd (KK w) b) (S : St b s l) (G1 : (x, inst 289 dx) ∈ l) (G2 : (dx, scD c) ∈ l) (hl : c.tl.length ≤ 1048576) (hr : Room A 1)
    (ha : args = [.ref x]) (h : ∀ t s', St b s' l → Q (.str (tx (sg c 0)) t) s') : wpAny (model prog w) A (call (.ref 174) args) Q E s := sign_c (i := 0) X S G1 G2 hl hr (.inr ⟨ha, rfl, rfl⟩) h
theorem sign_1 {k : Nat} {i : Int} {tk : Tok} {args : List Value} (X : Wd (KK w) b) (S : St b s l) (G1 : (x, inst 289 dx) ∈ l) (G2 : (dx, scD c) ∈ l) (hl : c.tl.length ≤ 1048576) (hr : Room A 1)
    (ha : args = [.ref x, .int i tk]) (hi : i = (k : Int)) (h : ∀ t s', St b s' l → Q (.str (tx (sg c k)) t) s') : wpAny (model prog w) A (call (.ref 174) args) Q E s := sign_c X S G1 G2 hl hr (.inl ⟨ha, hi⟩) h
end
theorem words_g_sign : True := by
 (k_with "ct.g_sign0" => first
  | (focus ((with_reducible refine' sign_0 ?_ ?_ ?_ ?_ ?_ ?_ ?_ ?_); (rotate_right 8); (· with_reducible assumption); (· with_reducible assumption); (rotate_left 4); (· rfl); (rotate_right 4); (· k_extra "mem"); (· k_extra "mem"); (· k_extra "len"); (· k_extra "room"); (intro _ _ _)))
  | (focus ((with_reducible refine' sign_1 ?_ ?_ ?_ ?_ ?_ ?_ ?_ ?_ ?_); (rotate_right 9); (· with_reducible assumption); (· with_reducible assumption); (rotate_left 4); (· rfl); (rotate_right 4); (rotate_left 4); (· k_extra "cast"); (rotate_right 4); (· k_extra "mem"); (· k_extra "mem"); (· k_extra "len"); (· k_extra "room"); (intro _ _ _)))
  | (focus ((with_reducible refine' spot_c ?_ ?_ ?_ ?_ ?_ ?_ ?_); (rotate_right 7); (· with_reducible assumption); (· with_reducible assumption); (rotate_left 3); (· rfl); (rotate_right 3); (· k_extra "mem"); (· k_extra "mem"); (· k_extra "room"); (intro _ _ _ _ _)))
  | fail "none")
 (k_with "op.g_sign1" => first
  | with_reducible refine r_in_str sg_len ?_
  | (focus ((with_reducible refine' r_lower ?_ ?_ ?_); (rotate_right 3); (· with_reducible assumption); (· exact Nat.le_trans sg_len (by decide)); (intro _ _ _)))
  | fail "none")
 trivial
local macro_rules
  | `(tactic| k_extra "ct") => `(tactic| k_extra "ct.g_sign0")
  | `(tactic| k_extra "op") => `(tactic| k_extra "op.g_sign1")
section
variable {prog : Program} {w : World} {A : Around} {E : Value → Shared → Prop} {b : Bs} {s : Shared} {l l' : Led} {x dx f : Addr} {c : Sc} {Q : Value → Shared → Prop}
noncomputable def Sc.step (c : Sc) : Sc := if sg c 0 = [10] then { c with line := c.line + 1, ls := c.at_ + 1, at_ := c.at_ + 1 } else { c with at_ := c.at_ + 1 }

theorem step_c {args : List Value} (X : Wd (KK w) b) (S : St b s l) (D : Del l dx (scD c) l') (G0 : (x, inst 289 dx) ∈ l') (hl : c.tl.length ≤ 1048576) (hr : Room A 2) (ha : args = [.ref x])
    (h : ∀ s', St b s' ((dx, scD c.step) :: l') → Q .none s') : wpAny (model prog w) A (call (.ref 188) args) Q E s := by
  subst ha
  have G2 := D.mem
  have G1 := D.up G0
  k_extra "enter"
  k_extra "w"
  refine w_ite (fun hc => ?_) (fun hc => ?_)
  · simp only [decide_eq_true_eq, tx_cps, lit_nl] at hc
    k_extra "w"
    refine h _ ?_
    rw [show c.step = { c with line := c.line + 1, ls := c.at_ + 1, at_ := c.at_ + 1 } from if_pos hc]
    k_extra "st!"
  · simp only [decide_eq_false_iff_not, tx_cps, lit_nl] at hc
    k_extra "w"
    refine h _ ?_
    rw [show c.step = { c with at_ := c.at_ + 1 } from if_neg hc]
    k_extra "st!"
end
theorem Exc.ext {b : Bs} {C : Addr} {R R' : Led} {sp : Int × Int} {e : Value} {s : Shared} (x : Exc b C R sp e s) (p : Ext R R') : Exc b C R' sp e s :=
  let ⟨_, h1, h2⟩ := p.subperm; (x.sub h1).perm h2
theorem Ext.mem {l l' : Led} (h : Ext l l') : ∀ p ∈ l', p ∈ l := fun p hp =>
  let ⟨_, h1, h2⟩ := h.subperm; h1.subset (h2.mem_iff.mpr hp)
section
variable {prog : Program} {w : World} {A : Around} {E : Value → Shared → Prop} {b : Bs} {s : Shared} {l l' : Led} {x dx f : Addr} {c : Sc} {Q : Value → Shared → Prop}
/-- an exception made, not yet raised -/
noncomputable def Mx (b : Bs) (l : Led) (sp : Int × Int) (v : Value) (s : Shared) : Prop :=
  ∃ (e dxe t : Addr) (m : Str → Option Value) (t1 t2 : Tok), v = .ref e ∧ m "spot" = some (.ref t) ∧ St b s ((e, xc 52 dxe .none) :: (dxe, ids 10 m) :: (t, tup [.int sp.1 t1, .int sp.2 t2]) :: l)
theorem Mx.exc {sp : Int × Int} {v : Value} (h : Mx b l sp v s) : Exc b 52 l sp v s :=
  let ⟨e, dxe, t, m, t1, t2, h1, h2, S⟩ := h; ⟨e, dxe, t, m, t1, t2, none, h1, h2, S⟩
theorem Mx.ext {sp : Int × Int} {v : Value} (h : Mx b l sp v s) (p : Ext l l') : Mx b l' sp v s :=
  let ⟨e, dxe, t, m, t1, t2, h1, h2, S⟩ := h; ⟨e, dxe, t, m, t1, t2, h1, h2, S.ext (.cons .head (.cons .head (.cons .head p)))⟩
noncomputable def Sc.spot (c : Sc) : Int × Int := (c.line, (c.at_ : Int) - c.ls + 1)
theorem wf_c {msg : Value} {t : Addr} {p q : Int} {t1 t2 : Tok} {args : List Value} (X : Wd (KK w) b) (S : St b s l) (D : Del l t (tup [.int p t1, .int q t2]) l') (hr : Room A 2) (ha : args = [msg, .ref t])
    (h : ∀ v s', Mx b l' (p, q) v s' → Q v s') : wpAny (model prog w) A (call (.ref 52) args) Q E s :=
  werr_c X (S.del D) hr ha fun e dxe m _ hm S' => h _ _ ⟨e, dxe, t, m, t1, t2, rfl, hm, S'⟩
theorem fault_c {msg : Value} {args : List Value} (X : Wd (KK w) b) (S : St b s l) (G1 : (x, inst 289 dx) ∈ l) (G2 : (dx, scD c) ∈ l) (hr : Room A 4) (ha : args = [.ref x, msg])
    (h : ∀ v s', Mx b l c.spot v s' → Q v s') : wpAny (model prog w) A (call (.ref 195) args) Q E s := by
  subst ha
  k_extra "enter"
  k_extra "w"
  refine' wf_c (by assumption) (by assumption) ?d ?r ?a ?_
  case a => exact rfl
  case d => k_extra "del"
  case r => k_extra "room"
  intro v s' m
  k_extra "w"
  exact h v s' (m.ext (by k_extra "ext"))
end
theorem words_g2_fault : True := by
 (k_with "ct.g2_fault0" => first
  | (focus ((with_reducible refine' step_c ?_ ?_ ?_ ?_ ?_ ?_ ?_ ?_); (rotate_right 8); (· with_reducible assumption); (· with_reducible assumption); (rotate_left 4); (· rfl); (rotate_right 4); (· k_extra "del"); (rotate_left 1); (· k_extra "len"); (rotate_right 1); (· k_extra "mem"); (· k_extra "room"); (intro _ _)))
  | (focus ((with_reducible refine' wf_c ?_ ?_ ?_ ?_ ?_ ?_); (rotate_right 6); (· with_reducible assumption); (· with_reducible assumption); (rotate_left 2); (· rfl); (rotate_right 2); (· k_extra "del"); (· k_extra "room"); (intro _ _ _)))
  | (focus ((with_reducible refine' fault_c ?_ ?_ ?_ ?_ ?_ ?_ ?_); (rotate_right 7); (· with_reducible assumption); (· with_reducible assumption); (rotate_left 3); (· rfl); (rotate_right 3); (· k_extra "mem"); (· k_extra "mem"); (· k_extra "room"); (intro _ _ _)))
  | fail "none")
 trivial
local macro_rules
  | `(tactic| k_extra "ct") => `(tactic| k_extra "ct.g2_fault0")
/-- what is known of the frames around -/
structure Hi (A : Around) (R : Led) : Prop where
  hh : A.handled = none
  fr : ∃ fs, A.frames = some fs ∧ FrIn fs R
theorem Hi.mono {A : Around} {R R' : Led} (h : Hi A R) (k : ∀ p ∈ R, p ∈ R') : Hi A R' := ⟨h.hh, let ⟨fs, a, c⟩ := h.fr; ⟨fs, a, c.mono k⟩⟩
theorem Hi.body {A : Around} {R : Led} {q : Str} {scope : Scope} {L f : Addr} {cd : Value} {m : Str → Option Value} (h : Hi A R) (hk : scope.kind = .function) : Hi (A.deeper (envOf q scope L f cd)) ((L, Mine.fr m) :: R) :=
  ⟨h.hh, let ⟨fs, a, c⟩ := h.fr; ⟨envOf q scope L f cd :: fs, Around.frames_deeper a, FrIn.cons (by show scope.kind ≠ .module; rw [hk]; decide) rfl (.head _) (c.mono fun p hp => .tail _ hp)⟩⟩
/-- the frames of a body: the own one lies in the ledger with some names -/
structure Hb (A : Around) (env : Env) (L : Addr) (R : Led) : Prop where
  hh : A.handled = none
  hf : env.frame = some L
  fr : ∃ outer, A.frames = some (env :: outer) ∧ FrIn outer R
  hk : env.scope.kind ≠ .module
theorem Hb.of {A : Around} {R : Led} {q : Str} {scope : Scope} {L f : Addr} {cd : Value} (h : Hi A R) (hk : scope.kind = .function) : Hb (A.deeper (envOf q scope L f cd)) (envOf q scope L f cd) L R :=
  ⟨h.hh, rfl, let ⟨fs, a, c⟩ := h.fr; ⟨fs, Around.frames_deeper a, c⟩, by show scope.kind ≠ .module; rw [hk]; decide⟩
theorem Hb.hi {A : Around} {env : Env} {L : Addr} {R : Led} (h : Hb A env L R) (m : Str → Option Value) : Hi A ((L, Mine.fr m) :: R) :=
  ⟨h.hh, let ⟨o, a, c⟩ := h.fr; ⟨_, a, FrIn.cons h.hk h.hf (.head _) (c.mono fun p hp => .tail _ hp)⟩⟩
/-- a fault at a spot of P is welcome -/
noncomputable def Lets (b : Bs) (R : Led) (P : Int × Int → Prop) (E : Value → Shared → Prop) : Prop := ∀ sp e s, P sp → Exc b 52 R sp e s → E e s
noncomputable def Lets1 (b : Bs) (L : Addr) (R : Led) (P : Int × Int → Prop) (E : Value → Shared → Prop) : Prop := ∀ m, Lets b ((L, fr m) :: R) P E

section
variable {M : Model} {A : Around} {E : Value → Shared → Prop} {b : Bs} {s : Shared} {R R1 l : Led} {P P1 : Int × Int → Prop} {L : Addr} {env : Env} {v : Value} {sp : Int × Int}
theorem Lets.body {q : Str} {scope : Scope} {f : Addr} {cd : Value} (err : Lets b R P E) (hi : Hi A R) (hk : scope.kind = .function) :
    Lets1 b L R P (LV M A (envOf q scope L f cd) E) := fun m sp e s hp x => by
  obtain ⟨fs, a, c⟩ := hi.fr
  exact x.leave (FrIn.cons (by show scope.kind ≠ .module; rw [hk]; decide) rfl (.head _) (c.mono fun p hp => .tail _ hp)) (Around.frames_deeper a) fun s' y => err sp e s' hp (y.exc.sub (.cons _ (.refl _)))
theorem Lets1.loop (err : Lets1 b L R P E) (hb : Hb A env L R) : Lets1 b L R P (EN M A env E) := fun m sp e s hp x => by
  obtain ⟨fs, a, c⟩ := hb.fr
  refine x.note (FrIn.cons hb.hk hb.hf (.head _) (c.mono fun p hp => .tail _ hp)) a fun s' y => ?_
  unfold cameBackBy
  refine wpAny_bind (y.has fun T => ?_)
  show wpAny M A (do
    if (Value.ref T == .none) = true then unsupported "frame.own-activation:exception-without-traceback"
    setFlight e env.frame) _ _ _
  rw [if_neg (by simp)]
  exact y.flight fun s'' z => err m sp e s'' hp z.exc
theorem Lets1.of (err : Lets1 b L R P E) (p : ∃ m, Ext R1 ((L, fr m) :: R)) (h : ∀ sp, P1 sp → P sp) : Lets b R1 P1 E := fun sp e s hp x => let ⟨m, q⟩ := p; err m sp e s (h sp hp) (x.ext q)
theorem Lets.mono (err : Lets b R P E) (p : Ext R1 R) (h : ∀ sp, P1 sp → P sp) : Lets b R1 P1 E := fun sp e s hp x => err sp e s (h sp hp) (x.ext p)
noncomputable def Raises (b : Bs) (E : Value → Shared → Prop) (v : Value) (s : Shared) : Prop := ∃ l sp, Mx b l sp v s ∧ E v s
theorem Lets1.raise (err : Lets1 b L R P E) (x : Mx b l sp v s) (p : ∃ m, Ext l ((L, fr m) :: R)) (h : P sp) : Raises b E v s := let ⟨m, q⟩ := p; ⟨l, sp, x, err m sp v s h (x.ext q).exc⟩
end
theorem r_rs {prog : Program} {w : World} {A : Around} {E : Value → Shared → Prop} {b : Bs} {s : Shared} {env : Env} {x : Expr} {pos : Pos} {Q : Flow → Shared → Prop} (hh : A.handled = none) (X : Wd (KK w) b) (h : wpAny (model prog w) A (eval x env) (fun v s₁ => Raises b E v s₁) E s) :
    wpAny (model prog w) A (exec (.Raise (some x) none pos) env) Q E s :=
  r_raise hh X (wpAny_mono h (fun v _ ⟨l, sp, ⟨e, dxe, t, m, t1, t2, h1, _, S⟩, hE⟩ => ⟨e, dxe, _, h1, S, h1 ▸ hE⟩) fun _ _ e => e)
theorem words_g3_let : True := by
 (k_with "st.g3_let0" => first
  | (focus ((with_reducible refine' r_rs ?_ ?_ ?_); (rotate_right 3); (rotate_left 1); (· with_reducible assumption); (rotate_right 1); (· assumption)))
  | fail "none")
 trivial
local macro_rules
  | `(tactic| k_extra "st") => `(tactic| k_extra "st.g3_let0")
section
variable {prog : Program} {w : World} {A : Around} {E : Value → Shared → Prop} {b : Bs} {s : Shared} {l l' : Led} {x dx L f : Addr} {c : Sc} {name : Str} {scope : Scope} {cd : Value} {m : Str → Option Value} {xp ap pos sp : Pos} {pl : Sem Bool} {Q : Value → Shared → Prop} {QB : Bool → Shared → Prop} {QF : Flow → Shared → Prop}
/-- self.sign(), a step, a field: each at once -/
theorem k_sign (X : Wd (KK w) b) (S : St b s l) (G : (L, fr m) ∈ l) (hv : m "self" = some (.ref x)) (hk : locOk scope "self" = true) (G1 : (x, inst 289 dx) ∈ l) (G2 : (dx, scD c) ∈ l) (hl : c.tl.length ≤ 1048576) (hr : Room A 1)
    (he : eval (.Call (.Attribute (.Name "self" xp) "sign" ap) [] [] pos) (envOf name scope L f cd) = (do
      let ov ← eval (.Name "self" xp) (envOf name scope L f cd)
      standAt ap.atName
      let (f1, first) ← holding [ov] (getMethod ov "sign" pl)
      callWith pos f1 first (backTo pos (starEach [] (envOf name scope L f cd))) []))
    (h : ∀ t s', St b s' l → Q (.str (tx (sg c 0)) t) s') : wpAny (model prog w) A (eval (.Call (.Attribute (.Name "self" xp) "sign" ap) [] [] pos) (envOf name scope L f cd)) Q E s := by
  refine MethodCall' ?_ he
  refine r_loc S G hv hk ?_
  refine me_sign X S G1 G2 ?_
  refine r_callW0 X S (by kernel_rfl) ?_
  exact sign_0 X S G1 G2 hl hr rfl h
theorem k_sign1 {k : Nat} {kp : Pos} (X : Wd (KK w) b) (S : St b s l) (G : (L, fr m) ∈ l) (hv : m "self" = some (.ref x)) (hk : locOk scope "self" = true) (G1 : (x, inst 289 dx) ∈ l) (G2 : (dx, scD c) ∈ l) (hl : c.tl.length ≤ 1048576) (hr : Room A 1)
    (he : eval (.Call (.Attribute (.Name "self" xp) "sign" ap) [.Constant (.int 1) k kp] [] pos) (envOf name scope L f cd) = (do
      let ov ← eval (.Name "self" xp) (envOf name scope L f cd)
      standAt ap.atName
      let (f1, first) ← holding [ov] (getMethod ov "sign" pl)
      callWith pos f1 first (backTo pos (starEach [.Constant (.int 1) k kp] (envOf name scope L f cd))) []))
    (h : ∀ t s', St b s' l → Q (.str (tx (sg c 1)) t) s') : wpAny (model prog w) A (eval (.Call (.Attribute (.Name "self" xp) "sign" ap) [.Constant (.int 1) k kp] [] pos) (envOf name scope L f cd)) Q E s := by
  refine MethodCall' ?_ he
  refine r_loc S G hv hk ?_
  refine me_sign X S G1 G2 ?_
  k_extra "w"
  exact h _ _ (by assumption)
theorem k_eq {y : Str} {k : Nat} {kp cp : Pos} (X : Wd (KK w) b) (S : St b s l) (G : (L, fr m) ∈ l) (hv : m "self" = some (.ref x)) (hk : locOk scope "self" = true) (G1 : (x, inst 289 dx) ∈ l) (G2 : (dx, scD c) ∈ l) (hl : c.tl.length ≤ 1048576) (hr : Room A 1)
    (he : eval (.Call (.Attribute (.Name "self" xp) "sign" ap) [] [] pos) (envOf name scope L f cd) = (do
      let ov ← eval (.Name "self" xp) (envOf name scope L f cd)
      standAt ap.atName
      let (f1, first) ← holding [ov] (getMethod ov "sign" pl)
      callWith pos f1 first (backTo pos (starEach [] (envOf name scope L f cd))) []))
    (h : ∀ s', St b s' l → QB (decide (sg c 0 = y.cps.toList)) s') : wpAny (model prog w) A (isTrue (.Compare (.Call (.Attribute (.Name "self" xp) "sign" ap) [] [] pos) [.Eq] [.Constant (.str y) k kp] cp) (envOf name scope L f cd) (eval (.Compare (.Call (.Attribute (.Name "self" xp) "sign" ap) [] [] pos) [.Eq] [.Constant (.str y) k kp] cp) (envOf name scope L f cd))) QB E s := by
  refine @wpAny_isTrue_Compare1 _ _ _ _ _ _ _ _ _ _ _ ?_ (by with_unfolding_all rfl)
  refine k_sign X S G hv hk G1 G2 hl hr he fun t s' S' => ?_
  k_extra "w"
  exact h _ S'
theorem k_ne {y : Str} {k : Nat} {kp cp : Pos} (X : Wd (KK w) b) (S : St b s l) (G : (L, fr m) ∈ l) (hv : m "self" = some (.ref x)) (hk : locOk scope "self" = true) (G1 : (x, inst 289 dx) ∈ l) (G2 : (dx, scD c) ∈ l) (hl : c.tl.length ≤ 1048576) (hr : Room A 1)
    (he : eval (.Call (.Attribute (.Name "self" xp) "sign" ap) [] [] pos) (envOf name scope L f cd) = (do
      let ov ← eval (.Name "self" xp) (envOf name scope L f cd)
      standAt ap.atName
      let (f1, first) ← holding [ov] (getMethod ov "sign" pl)
      callWith pos f1 first (backTo pos (starEach [] (envOf name scope L f cd))) []))
    (h : ∀ s', St b s' l → QB (!decide (sg c 0 = y.cps.toList)) s') : wpAny (model prog w) A (isTrue (.Compare (.Call (.Attribute (.Name "self" xp) "sign" ap) [] [] pos) [.NotEq] [.Constant (.str y) k kp] cp) (envOf name scope L f cd) (eval (.Compare (.Call (.Attribute (.Name "self" xp) "sign" ap) [] [] pos) [.NotEq] [.Constant (.str y) k kp] cp) (envOf name scope L f cd))) QB E s := by
  refine @wpAny_isTrue_Compare1 _ _ _ _ _ _ _ _ _ _ _ ?_ (by with_unfolding_all rfl)
  refine k_sign X S G hv hk G1 G2 hl hr he fun t s' S' => ?_
  k_extra "w"
  exact h _ S'
theorem k_step (X : Wd (KK w) b) (S : St b s l) (G : (L, fr m) ∈ l) (hv : m "self" = some (.ref x)) (hk : locOk scope "self" = true) (D : Del l dx (scD c) l') (G1 : (x, inst 289 dx) ∈ l') (hl : c.tl.length ≤ 1048576) (hr : Room A 2) (hin : interactive (envOf name scope L f cd) = false) (hsw : swapsWith (.Call (.Attribute (.Name "self" xp) "step" ap) [] [] pos) none sp.line (envOf name scope L f cd) = pure false)
    (he : eval (.Call (.Attribute (.Name "self" xp) "step" ap) [] [] pos) (envOf name scope L f cd) = (do
      let ov ← eval (.Name "self" xp) (envOf name scope L f cd)
      standAt ap.atName
      let (f1, first) ← holding [ov] (getMethod ov "step" pl)
      callWith pos f1 first (backTo pos (starEach [] (envOf name scope L f cd))) []))
    (h : ∀ s', St b s' ((dx, scD c.step) :: l') → QF .next s') : wpAny (model prog w) A (exec (.Expr (.Call (.Attribute (.Name "self" xp) "step" ap) [] [] pos) sp) (envOf name scope L f cd)) QF E s := by
  refine @wpAny_Expr _ _ _ _ _ _ _ _ ?_ hin hsw
  refine MethodCall' ?_ he
  refine r_loc S G hv hk ?_
  refine me_step X S (D.up G1) D.mem ?_
  refine r_callW0 X S (by kernel_rfl) ?_
  exact step_c X S D G1 hl hr rfl h
theorem k_at (X : Wd (KK w) b) (S : St b s l) (G : (L, fr m) ∈ l) (hv : m "self" = some (.ref x)) (hk : locOk scope "self" = true) (G1 : (x, inst 289 dx) ∈ l) (G2 : (dx, scD c) ∈ l)
    (h : Q (.int c.at_ (tkOf s.heap dx "at")) (Tk s)) : wpAny (model prog w) A (eval (.Attribute (.Name "self" xp) "at" pos) (envOf name scope L f cd)) Q E s := r_attrN (r_loc S G hv hk (sc_at X S G1 G2 h))
theorem k_text (X : Wd (KK w) b) (S : St b s l) (G : (L, fr m) ∈ l) (hv : m "self" = some (.ref x)) (hk : locOk scope "self" = true) (G1 : (x, inst 289 dx) ∈ l) (G2 : (dx, scD c) ∈ l)
    (h : Q (.str (tx c.tl) (tkOf s.heap dx "text")) (Tk s)) : wpAny (model prog w) A (eval (.Attribute (.Name "self" xp) "text" pos) (envOf name scope L f cd)) Q E s := r_attrN (r_loc S G hv hk (sc_text X S G1 G2 h))
theorem k_marks (X : Wd (KK w) b) (S : St b s l) (G : (L, fr m) ∈ l) (hv : m "self" = some (.ref x)) (hk : locOk scope "self" = true) (G1 : (x, inst 289 dx) ∈ l) (G2 : (dx, scD c) ∈ l)
    (h : Q (.ref c.ml) (Tk s)) : wpAny (model prog w) A (eval (.Attribute (.Name "self" xp) "open_marks" pos) (envOf name scope L f cd)) Q E s := r_attrN (r_loc S G hv hk (sc_marks X S G1 G2 h))
theorem k_fault {msg : Str} {k : Nat} {kp rp : Pos} (hh : A.handled = none) (X : Wd (KK w) b) (S : St b s l) (G : (L, fr m) ∈ l) (hv : m "self" = some (.ref x)) (hk : locOk scope "self" = true) (G1 : (x, inst 289 dx) ∈ l) (G2 : (dx, scD c) ∈ l) (hr : Room A 4)
    (he : eval (.Call (.Attribute (.Name "self" xp) "fault" ap) [.Constant (.str msg) k kp] [] pos) (envOf name scope L f cd) = (do
      let ov ← eval (.Name "self" xp) (envOf name scope L f cd)
      standAt ap.atName
      let (f1, first) ← holding [ov] (getMethod ov "fault" pl)
      callWith pos f1 first (backTo pos (starEach [.Constant (.str msg) k kp] (envOf name scope L f cd))) []))
    (h : ∀ v s', Mx b l c.spot v s' → Raises b E v s') : wpAny (model prog w) A (exec (.Raise (some (.Call (.Attribute (.Name "self" xp) "fault" ap) [.Constant (.str msg) k kp] [] pos)) none rp) (envOf name scope L f cd)) QF E s := by
  refine r_rs hh X ?_
  refine MethodCall' ?_ he
  refine r_loc S G hv hk ?_
  refine me_fault X S G1 G2 ?_
  k_extra "w"
  exact h _ _ (by assumption)
end
theorem words_g4_combo : True := by
 (k_with "ev.g4_combo0" => first
  | (focus ((with_reducible refine' k_eq ?_ ?_ ?_ ?_ ?_ ?_ ?_ ?_ ?_ ?_ ?_); (rotate_right 11); (· with_reducible assumption); (· with_reducible assumption); (rotate_left 7); (· rfl); (rotate_right 7); (rotate_left 2); (· kernel_rfl); (rotate_right 2); (· k_extra "mem"); (· k_extra "nm"); (· k_extra "mem"); (· k_extra "mem"); (· k_extra "len"); (· k_extra "room"); (intro _ _)))
  | (focus ((with_reducible refine' k_ne ?_ ?_ ?_ ?_ ?_ ?_ ?_ ?_ ?_ ?_ ?_); (rotate_right 11); (· with_reducible assumption); (· with_reducible assumption); (rotate_left 7); (· rfl); (rotate_right 7); (rotate_left 2); (· kernel_rfl); (rotate_right 2); (· k_extra "mem"); (· k_extra "nm"); (· k_extra "mem"); (· k_extra "mem"); (· k_extra "len"); (· k_extra "room"); (intro _ _)))
  | (focus ((with_reducible refine' k_sign ?_ ?_ ?_ ?_ ?_ ?_ ?_ ?_ ?_ ?_ ?_); (rotate_right 11); (· with_reducible assumption); (· with_reducible assumption); (rotate_left 7); (· rfl); (rotate_right 7); (rotate_left 2); (· kernel_rfl); (rotate_right 2); (· k_extra "mem"); (· k_extra "nm"); (· k_extra "mem"); (· k_extra "mem"); (· k_extra "len"); (· k_extra "room"); (intro _ _ _)))
  | (focus ((with_reducible refine' k_sign1 ?_ ?_ ?_ ?_ ?_ ?_ ?_ ?_ ?_ ?_ ?_); (rotate_right 11); (· with_reducible assumption); (· with_reducible assumption); (rotate_left 7); (· rfl); (rotate_right 7); (rotate_left 2); (· kernel_rfl); (rotate_right 2); (· k_extra "mem"); (· k_extra "nm"); (· k_extra "mem"); (· k_extra "mem"); (· k_extra "len"); (· k_extra "room"); (intro _ _ _)))
  | (focus ((with_reducible refine' k_at ?_ ?_ ?_ ?_ ?_ ?_ ?_ ?_); (rotate_right 8); (· with_reducible assumption); (· with_reducible assumption); (rotate_left 2); (· kernel_rfl); (rotate_right 2); (· k_extra "mem"); (· k_extra "nm"); (· k_extra "mem"); (· k_extra "mem")))
  | (focus ((with_reducible refine' k_text ?_ ?_ ?_ ?_ ?_ ?_ ?_ ?_); (rotate_right 8); (· with_reducible assumption); (· with_reducible assumption); (rotate_left 2); (· kernel_rfl); (rotate_right 2); (· k_extra "mem"); (· k_extra "nm"); (· k_extra "mem"); (· k_extra "mem")))
  | (focus ((with_reducible refine' k_marks ?_ ?_ ?_ ?_ ?_ ?_ ?_ ?_); (rotate_right 8); (· with_reducible assumption); (· with_reducible assumption); (rotate_left 2); (· kernel_rfl); (rotate_right 2); (· k_extra "mem"); (· k_extra "nm"); (· k_extra "mem"); (· k_extra "mem")))
  | fail "none")
 (k_with "st.g4_combo1" => first
  | (focus ((with_reducible refine' k_step ?_ ?_ ?_ ?_ ?_ ?_ ?_ ?_ ?_ ?_ ?_ ?_ ?_); (rotate_right 13); (· with_reducible assumption); (· with_reducible assumption); (rotate_left 9); (· rfl); (rotate_right 9); (rotate_left 8); (· kernel_rfl); (rotate_right 8); (rotate_left 2); (· kernel_rfl); (rotate_right 2); (rotate_left 6); (· kernel_rfl); (rotate_right 6); (· k_extra "mem"); (· k_extra "nm"); (· k_extra "del"); (· k_extra "mem"); (· k_extra "len"); (· k_extra "room"); (intro _ _)))
  | (focus ((with_reducible refine' k_fault ?_ ?_ ?_ ?_ ?_ ?_ ?_ ?_ ?_ ?_ ?_); (rotate_right 11); (· with_reducible assumption); (· with_reducible assumption); (· with_reducible assumption); (rotate_left 6); (· rfl); (rotate_right 6); (rotate_left 2); (· kernel_rfl); (rotate_right 2); (· k_extra "mem"); (· k_extra "nm"); (· k_extra "mem"); (· k_extra "mem"); (· k_extra "room"); (intro _ _ _)))
  | fail "none")
 trivial
local macro_rules
  | `(tactic| k_extra "ev") => `(tactic| k_extra "ev.g4_combo0")
  | `(tactic| k_extra "st") => `(tactic| k_extra "st.g4_combo1")
noncomputable abbrev T (x : String) : List Nat := (Str.ofString x).cps.toList
noncomputable def countsL (ms : List (List Nat)) : Bool := decide (ms = []) || decide (ms.getLast? = some (T "block"))
noncomputable def nameStart (l : List Nat) : Bool := decide (l = T "_") || Txt.isalpha (tx l)
noncomputable def nameSign (l : List Nat) : Bool := nameStart l || (!decide (l = T "") && isIn l (T "0123456789"))
theorem q_bool {Q : Value → Shared → Prop} {z z' : Bool} {s : Shared} (h : Q (.bool z) s) (e : z = z') : Q (.bool z') s := e ▸ h
section
variable {prog : Program} {w : World} {A : Around} {E : Value → Shared → Prop} {b : Bs} {s : Shared} {l l' : Led} {x dx f : Addr} {c : Sc} {ms : List (List Nat)} {Q : Value → Shared → Prop}
theorem counts_c {args : List Value} (X : Wd (KK w) b) (S : St b s l) (G1 : (x, inst 289 dx) ∈ l) (G2 : (dx, scD c) ∈ l) (G3 : (c.ml, mk ms) ∈ l) (hr : Room A 2) (ha : args = [.ref x])
    (h : ∀ s', St b s' l → Q (.bool (countsL ms)) s') : wpAny (model prog w) A (call (.ref 202) args) Q E s := by
  subst ha
  rcases List.eq_nil_or_concat ms with e | ⟨m, k, e⟩
  · subst e
    k_extra "enter"
    k_extra "w"
    refine w_true ?_
    k_extra "w"
    exact q_bool (h _ (by k_extra "st!")) rfl
  · rw [List.concat_eq_append] at e
    subst e
    k_extra "enter"
    k_extra "w"
    rw [decide_eq_false (by simp)]
    refine w_false ?_
    k_extra "w"
    refine q_bool (h _ (by k_extra "st!")) ?_
    simp [countsL]
theorem start_c {l₁ : List Nat} {t : Tok} {args : List Value} (X : Wd (KK w) b) (S : St b s l) (hr : Room A 2) (ha : args = [.str (tx l₁) t])
    (h : ∀ s', St b s' l → Q (.bool (nameStart l₁)) s') : wpAny (model prog w) A (call (.ref 137) args) Q E s := by
  subst ha
  k_extra "enter"
  k_extra "w"
  refine w_ite (fun hc => ?_) (fun hc => ?_)
  · k_extra "w"
    refine q_bool (h _ (by k_extra "st!")) ?_
    rw [hc]; unfold nameStart; rw [show decide (l₁ = T "_") = true from hc]; rfl
  · k_extra "w"
    refine q_bool (h _ (by k_extra "st!")) ?_
    unfold nameStart; rw [show decide (l₁ = T "_") = false from hc]; rfl
end
theorem words_h1_small : True := by
 (k_with "ct.h1_small0" => first
  | (focus ((with_reducible refine' counts_c ?_ ?_ ?_ ?_ ?_ ?_ ?_ ?_); (rotate_right 8); (· with_reducible assumption); (· with_reducible assumption); (rotate_left 4); (· rfl); (rotate_right 4); (· k_extra "mem"); (· k_extra "mem"); (· k_extra "mem"); (· k_extra "room"); (intro _ _)))
  | (focus ((with_reducible refine' start_c ?_ ?_ ?_ ?_ ?_); (rotate_right 5); (· with_reducible assumption); (· with_reducible assumption); (rotate_left 1); (· rfl); (rotate_right 1); (· k_extra "room"); (intro _ _)))
  | fail "none")
 trivial
local macro_rules
  | `(tactic| k_extra "ct") => `(tactic| k_extra "ct.h1_small0")
noncomputable def idxEnd : List (List Nat) → Bool
  | [] => false
  | m :: r => if m = T "block" then false else if m = T "[" then true else idxEnd r
section
variable {prog : Program} {w : World} {A : Around} {E : Value → Shared → Prop} {b : Bs} {s : Shared} {l l' : Led} {x dx f : Addr} {c : Sc} {ms : List (List Nat)} {Q : Value → Shared → Prop}
theorem r_iter_mk {a : Addr} {Q : Value → Shared → Prop} (S : St b s l) (G : (a, mk ms) ∈ l) (h : ∀ it s', St b s' ((it, lit a 0) :: l) → Q (.ref it) s') : wpAny (model prog w) A (pyIter (.ref a)) Q E s :=
  let ⟨_, _, hl⟩ := mk_at S G; r_iter_list S ⟨_, hl⟩ h
theorem idx_c {args : List Value} (X : Wd (KK w) b) (S : St b s l) (G1 : (x, inst 289 dx) ∈ l) (G2 : (dx, scD c) ∈ l) (G3 : (c.ml, mk ms) ∈ l) (hh : A.handled = none) (hz : ms.length ≤ 1048576) (hr : Room A 2) (ha : args = [.ref x])
    (h : ∀ s', St b s' l → Q (.bool (idxEnd ms.reverse)) s') : wpAny (model prog w) A (call (.ref 244) args) Q E s := by
  subst ha
  k_extra "enter"
  rename_i L S1
  k_extra "w"
  rename_i n _ _
  refine r_iter_mk (ms := ms.reverse) (by assumption) (by k_extra "mem") ?_
  intro it s2 S2
  refine r_forLoop (iter_mk (a := n) (ms := ms.reverse)) hh (fun i l' => idxEnd (ms.reverse.drop i) = idxEnd ms.reverse ∧ ∃ m, l' = (n, mk ms.reverse) :: (L, fr m) :: l ∧ m "self" = some (.ref x)) ?_ ?_ ⟨rfl, _, rfl, by k_extra "nm"⟩ (by k_extra "mem") S2
  · rintro i s3 l3 v R Z hR hi ⟨h1, m, rfl, hm⟩ _ ⟨k, t, hk, rfl⟩ S3
    have e : ms.reverse.drop i = k :: ms.reverse.drop (i + 1) := by
      rw [List.drop_eq_getElem_cons hi]; rw [List.getElem?_eq_getElem hi] at hk; cases hk; rfl
    rw [e] at h1
    k_extra "w"
    refine w_ite (fun hc => ?_) (fun hc => ?_)
    · k_extra "w"
      exact q_bool (h _ (by k_extra "st!")) (by rw [← h1]; exact if_pos (of_decide_eq_true hc))
    · k_extra "w"
      refine w_ite (fun hd => ?_) (fun hd => ?_)
      · k_extra "w"
        exact q_bool (h _ (by k_extra "st!")) (by rw [← h1]; exact (if_neg (of_decide_eq_false hc)).trans (if_pos (of_decide_eq_true hd)))
      · k_extra "w"
        have h2 : idxEnd (ms.reverse.drop (i + 1)) = idxEnd ms.reverse := by rw [← h1]; exact ((if_neg (of_decide_eq_false hc)).trans (if_neg (of_decide_eq_false hd))).symm
        refine' ⟨_, ⟨h2, _, rfl, ?nm⟩, ?mem, ?st⟩
        case st => k_extra "st!"
        case nm => k_extra "nm"
        case mem => k_extra "mem"
  · rintro s3 l3 ⟨h1, m, rfl, hm⟩ S3
    k_extra "w"
    refine q_bool (h _ (by k_extra "st!")) ?_
    rw [← h1, List.drop_of_length_le (Nat.le_refl _)]; rfl
end
/-- n signs further -/
noncomputable def Sc.go (c : Sc) : Nat → Sc
  | 0 => c
  | n + 1 => (c.go n).step
theorem step_tl (c : Sc) : c.step.tl = c.tl := by unfold Sc.step; split <;> rfl
theorem go_tl (c : Sc) (n : Nat) : (c.go n).tl = c.tl := by
  induction n with
  | zero => rfl
  | succ n ih => show (c.go n).step.tl = _; rw [step_tl, ih]
theorem step_ml (c : Sc) : c.step.ml = c.ml := by unfold Sc.step; split <;> rfl
theorem go_ml (c : Sc) (n : Nat) : (c.go n).ml = c.ml := by
  induction n with
  | zero => rfl
  | succ n ih => show (c.go n).step.ml = _; rw [step_ml, ih]
theorem step_last (c : Sc) : c.step.last = c.last := by unfold Sc.step; split <;> rfl
theorem go_last (c : Sc) (n : Nat) : (c.go n).last = c.last := by
  induction n with
  | zero => rfl
  | succ n ih => show (c.go n).step.last = _; rw [step_last, ih]
theorem step_nested (c : Sc) : c.step.nested = c.nested := by unfold Sc.step; split <;> rfl
theorem go_nested (c : Sc) (n : Nat) : (c.go n).nested = c.nested := by
  induction n with
  | zero => rfl
  | succ n ih => show (c.go n).step.nested = _; rw [step_nested, ih]
theorem step_at (c : Sc) : c.step.at_ = c.at_ + 1 := by unfold Sc.step; split <;> rfl
theorem go_at (c : Sc) (n : Nat) : (c.go n).at_ = c.at_ + n := by
  induction n with
  | zero => rfl
  | succ n ih => show (c.go n).step.at_ = _; rw [step_at, ih]; rfl
theorem go_r (c : Sc) (n : Nat) : (c.go n).r = c.r.drop n := by unfold Sc.r; rw [go_tl, go_at, List.drop_drop]
theorem go_sg (c : Sc) (n k : Nat) : sg (c.go n) k = (c.r.drop (n + k)).take 1 := by unfold sg; rw [go_r, List.drop_drop]
theorem go_add (c : Sc) (n m : Nat) : (c.go n).go m = c.go (n + m) := by
  induction m with
  | zero => rfl
  | succ m ih => show ((c.go n).go m).step = _; rw [ih]; rfl

theorem words_h3_rem1 : True := by
 (k_with "len.h3_rem10" => (simp only [go_tl, step_tl]; assumption))
 trivial
local macro_rules
  | `(tactic| k_extra "len") => `(tactic| k_extra "len.h3_rem10")
/-- how far a remark goes -/
noncomputable def remS : Nat → Int → List Nat → Option Nat
  | 0, _, _ => none
  | f + 1, d, r => if r.take 2 = T "" then none
      else if r.take 2 ∈ [T "#=", T "=#"] then
        (if d + (if r.take 2 = T "#=" then 1 else -1) = 0 then some 2 else (remS f (d + (if r.take 2 = T "#=" then 1 else -1)) (r.drop 2)).map (· + 2))
      else if d = 0 then some 1 else (remS f d (r.drop 1)).map (· + 1)
noncomputable def remF (r : List Nat) : Option Nat := remS (r.length + 1) 0 r
inductive RemI (b : Bs) (l' : Led) (L x dx : Addr) (c : Sc) (n : Nat) (s : Shared) : Prop
  | mk (k : Nat) (d : Int) (m : Str → Option Value) (t : Addr) (t1 t2 u : Tok)
    (h1 : remF c.r = (remS n d (c.r.drop k)).map (· + k) ∧ (c.r.drop k).length < n)
    (h2 : m "self" = some (.ref x) ∧ m "begun" = some (.ref t) ∧ m "depth" = some (.int d u))
    (h3 : St b s ((L, fr m) :: (dx, scD (c.go k)) :: (t, tup [.int c.line t1, .int ((c.at_ : Int) - c.ls + 1) t2]) :: l'))
section
variable {prog : Program} {w : World} {A : Around} {E : Value → Shared → Prop} {b : Bs} {s : Shared} {l l' : Led} {x dx f : Addr} {c : Sc} {Q : Value → Shared → Prop}
theorem remark_c {args : List Value} (X : Wd (KK w) b) (S : St b s l) (D : Del l dx (scD c) l') (G0 : (x, inst 289 dx) ∈ l') (hl : c.tl.length ≤ 1048576) (hi : Hi A l') (hr : Room A 6) (ha : args = [.ref x])
    (err : Lets b l' (fun sp => remF c.r = none ∧ sp = c.spot) E) (h : ∀ n s', remF c.r = some n → St b s' ((dx, scD (c.go n)) :: l') → Q .none s') : wpAny (model prog w) A (call (.ref 216) args) Q E s := by
  subst ha
  have G2 := D.mem
  have G1 := D.up G0
  have hh := hi.hh
  k_extra "enter"
  rename_i L S1
  k_extra "w"
  refine' r_while (RemI b l' L x dx c) ?turn (c.r.length + 1) ?base
  case base =>
    refine' ⟨0, 0, _, _, _, _, _, ⟨?e1, Nat.lt_succ_self _⟩, ⟨?m1, ?m2, ?m3⟩, ?st⟩
    case st =>
      change St b _ ((L, fr _) :: (dx, scD c) :: _)
      k_extra "st!"
    case m1 => k_extra "nm"
    case m2 => k_extra "nm"
    case m3 => k_extra "nm"
    case e1 => show remF c.r = _; unfold remF; simp
  case turn =>
    rintro n s3 R Z hR ⟨k, d, m, t, t1, t2, u, ⟨h1, h2⟩, ⟨m1, m2, m3⟩, S3⟩
    have hlk : (c.go k).tl.length ≤ 1048576 := by rw [go_tl]; exact hl
    cases n with
    | zero => exact absurd h2 (Nat.not_lt_zero _)
    | succ n =>
      k_extra "w"
      refine w_ite (fun hc => ?_) (fun hc => ?_)
      · have hc' : (c.go k).r.take 2 = T "" := of_decide_eq_true hc
        rw [go_r] at hc'
        rw [remS, if_pos hc'] at h1
        k_extra "w"
        exact ((err.body hi rfl).loop (Hb.of hi rfl)).raise (by assumption) ⟨_, by k_extra "ext"⟩ ⟨h1, rfl⟩
      · have hc' : ¬ (c.go k).r.take 2 = T "" := of_decide_eq_false hc
        rw [go_r] at hc'
        rw [remS, if_neg hc'] at h1
        k_extra "w"
        refine w_ite (fun hd => ?_) (fun hd => ?_)
        · have hd' : (c.go k).r.take 2 ∈ [T "#=", T "=#"] := of_decide_eq_true hd
          rw [go_r] at hd'
          rw [if_pos hd'] at h1
          k_extra "w"
          refine w_ite (fun he => ?_) (fun he => ?_)
          · have he' : (c.go k).r.take 2 = T "#=" := of_decide_eq_true he
            rw [go_r] at he'
            rw [if_pos he'] at h1
            k_extra "w"
            refine w_ite (fun hg => ?_) (fun hg => ?_)
            · rw [if_pos (eq_of_beq hg)] at h1
              k_extra "w"
              refine h (k + 2) _ (by rw [h1]; simp [Nat.add_comm]) ?_
              change St b _ ((dx, scD (c.go k).step.step) :: _)
              k_extra "st!"
            · rw [if_neg (fun z => by rw [z] at hg; simp at hg)] at h1
              k_extra "w"
              refine' ⟨n, Nat.lt_succ_self _, k + 2, _, _, _, _, _, _, ⟨?e1, ?e2⟩, ⟨?m1, ?m2, ?m3⟩, ?st⟩
              case st =>
                change St b _ ((L, fr _) :: (dx, scD (c.go k).step.step) :: _)
                k_extra "st!"
              case m3 => k_extra "nm"
              case m1 => k_extra "nm"
              case m2 => k_extra "nm"
              case e1 => rw [h1, List.drop_drop, Option.map_map]; congr 1; funext z; simp only [Function.comp]; omega
              case e2 => simp only [List.length_drop] at h2 ⊢; have := List.length_pos_iff.mpr (fun z => hc' (by rw [z]; rfl) : (c.r.drop k).take 2 ≠ []); simp only [List.length_take, List.length_drop] at this; omega
          · have he' : ¬ (c.go k).r.take 2 = T "#=" := of_decide_eq_false he
            rw [go_r] at he'
            rw [if_neg he'] at h1
            k_extra "w"
            refine w_ite (fun hg => ?_) (fun hg => ?_)
            · rw [if_pos (eq_of_beq hg)] at h1
              k_extra "w"
              refine h (k + 2) _ (by rw [h1]; simp [Nat.add_comm]) ?_
              change St b _ ((dx, scD (c.go k).step.step) :: _)
              k_extra "st!"
            · rw [if_neg (fun z => by rw [z] at hg; simp at hg)] at h1
              k_extra "w"
              refine' ⟨n, Nat.lt_succ_self _, k + 2, _, _, _, _, _, _, ⟨?e1, ?e2⟩, ⟨?m1, ?m2, ?m3⟩, ?st⟩
              case st =>
                change St b _ ((L, fr _) :: (dx, scD (c.go k).step.step) :: _)
                k_extra "st!"
              case m3 => k_extra "nm"
              case m1 => k_extra "nm"
              case m2 => k_extra "nm"
              case e1 => rw [h1, List.drop_drop, Option.map_map]; congr 1; funext z; simp only [Function.comp]; omega
              case e2 => simp only [List.length_drop] at h2 ⊢; have := List.length_pos_iff.mpr (fun z => hc' (by rw [z]; rfl) : (c.r.drop k).take 2 ≠ []); simp only [List.length_take, List.length_drop] at this; omega
        · have hd' : ¬ (c.go k).r.take 2 ∈ [T "#=", T "=#"] := of_decide_eq_false hd
          rw [go_r] at hd'
          rw [if_neg hd'] at h1
          k_extra "w"
          refine w_ite (fun hg => ?_) (fun hg => ?_)
          · rw [if_pos (eq_of_beq hg)] at h1
            k_extra "w"
            refine h (k + 1) _ (by rw [h1]; simp [Nat.add_comm]) ?_
            change St b _ ((dx, scD (c.go k).step) :: _)
            k_extra "st!"
          · rw [if_neg (fun z => by rw [z] at hg; simp at hg)] at h1
            k_extra "w"
            refine' ⟨n, Nat.lt_succ_self _, k + 1, _, _, _, _, _, _, ⟨?e1, ?e2⟩, ⟨?m1, ?m2, ?m3⟩, ?st⟩
            case st =>
              change St b _ ((L, fr _) :: (dx, scD (c.go k).step) :: _)
              k_extra "st!"
            case m3 => k_extra "nm"
            case m1 => k_extra "nm"
            case m2 => k_extra "nm"
            case e1 => rw [h1, List.drop_drop, Option.map_map]; congr 1; funext z; simp only [Function.comp]; omega
            case e2 => simp only [List.length_drop] at h2 ⊢; have := List.length_pos_iff.mpr (fun z => hc' (by rw [z]; rfl) : (c.r.drop k).take 2 ≠ []); simp only [List.length_take, List.length_drop] at this; omega
end
theorem words_h3_rem : True := by
 (k_with "len.h3_rem0" => (simp only [go_tl, step_tl]; assumption))
 (k_with "hi.h3_rem1" => exact Hi.mono (Hb.hi (Hb.of (by assumption) rfl) _) (Ext.mem (by k_extra "ext")))
 (k_with "er0.h3_rem2" => first
  | refine Lets1.of (Lets.body (by assumption) (by assumption) rfl) ⟨_, by k_extra "ext"⟩ ?_
  | fail "none")
 (k_with "er1.h3_rem3" => first
  | refine Lets1.of (Lets1.loop (Lets.body (by assumption) (by assumption) rfl) (Hb.of (by assumption) rfl)) ⟨_, by k_extra "ext"⟩ ?_
  | fail "none")
 trivial
local macro_rules
  | `(tactic| k_extra "len") => `(tactic| k_extra "len.h3_rem0")
  | `(tactic| k_extra "hi") => `(tactic| k_extra "hi.h3_rem1")
  | `(tactic| k_extra "er0") => `(tactic| k_extra "er0.h3_rem2")
  | `(tactic| k_extra "er1") => `(tactic| k_extra "er1.h3_rem3")
theorem nd_t {p : Prop} [Decidable p] (h : (!decide p) = true) : ¬ p := by simpa using h
theorem nd_f {p : Prop} [Decidable p] (h : (!decide p) = false) : p := by simpa using h
/-- how far a line goes -/
noncomputable def lineS : List Nat → Nat
  | [] => 0
  | a :: r => if [a] ∈ [T "", T "\n"] then 0 else lineS r + 1
theorem lineS_stop {r : List Nat} (h : r.take 1 ∈ [T "", T "\n"]) : lineS r = 0 := by
  cases r with
  | nil => rfl
  | cons a r => exact if_pos h
theorem lineS_go {r : List Nat} (h : ¬ r.take 1 ∈ [T "", T "\n"]) : lineS r = lineS (r.drop 1) + 1 := by
  cases r with
  | nil => exact absurd (by rw [show T "" = [] from lit_nil]; exact List.mem_cons_self) h
  | cons a r => exact if_neg h
noncomputable def shiftE (n : Nat) : Except Nat Nat → Except Nat Nat
  | .error e => .error (n + e)
  | .ok m => .ok (n + m)
theorem shiftE_zero (x : Except Nat Nat) : shiftE 0 x = x := by cases x <;> simp [shiftE]
theorem shiftE_add (n m : Nat) (x : Except Nat Nat) : shiftE n (shiftE m x) = shiftE (n + m) x := by cases x <;> simp [shiftE, Nat.add_assoc]
/-- how far blanks go -/
noncomputable def blkS (nl : Bool) : Nat → List Nat → Except Nat Nat
  | 0, _ => .ok 0
  | f + 1, r => if r.take 1 = T "" then .ok 0
      else if r.take 2 = T "#=" then (match remF r with
        | none => .error 0
        | some n => shiftE n (blkS nl f (r.drop n)))
      else if r.take 1 = T "#" then shiftE (lineS r) (blkS nl f (r.drop (lineS r)))
      else if isIn (r.take 1) (T " \t\r") = true ∨ (r.take 1 = T "\n" ∧ nl = true) then shiftE 1 (blkS nl f (r.drop 1))
      else .ok 0
noncomputable def blkF (nl : Bool) (r : List Nat) : Except Nat Nat := blkS nl (r.length + 1) r
theorem remS_pos {f : Nat} {d : Int} {r : List Nat} {n : Nat} (h : remS f d r = some n) : 1 ≤ n := by
  cases f with
  | zero => cases h
  | succ f =>
    unfold remS at h
    repeat' split at h
    all_goals first
      | (obtain ⟨m, _, rfl⟩ := Option.map_eq_some_iff.mp h; omega)
      | (cases h; decide)
      | cases h
inductive BlkI (b : Bs) (l' : Led) (L x dx : Addr) (c : Sc) (ms : List (List Nat)) (n : Nat) (s : Shared) : Prop
  | mk (k : Nat) (m : Str → Option Value) (u : Tok)
    (h1 : blkF (!countsL ms) c.r = shiftE k (blkS (!countsL ms) n (c.r.drop k)) ∧ (c.r.drop k).length < n)
    (h2 : m "self" = some (.ref x) ∧ m "begun" = some (.int c.at_ u))
    (h3 : St b s ((L, fr m) :: (dx, scD (c.go k)) :: l'))
inductive LinI (b : Bs) (l' : Led) (L x dx : Addr) (c : Sc) (m : Str → Option Value) (k : Nat) (n : Nat) (s : Shared) : Prop
  | mk (j : Nat)
    (h1 : lineS (c.r.drop k) = j + n ∧ lineS (c.r.drop (k + j)) = n)
    (h2 : St b s ((L, fr m) :: (dx, scD (c.go (k + j))) :: l'))
section
variable {prog : Program} {w : World} {A : Around} {E : Value → Shared → Prop} {b : Bs} {s : Shared} {l l' : Led} {x dx f : Addr} {c : Sc} {ms : List (List Nat)} {Q : Value → Shared → Prop}
theorem blanks_c {args : List Value} (X : Wd (KK w) b) (S : St b s l) (D : Del l dx (scD c) l') (G0 : (x, inst 289 dx) ∈ l') (G3 : (c.ml, mk ms) ∈ l') (hl : c.tl.length ≤ 1048576) (hi : Hi A l') (hr : Room A 8) (ha : args = [.ref x])
    (err : Lets b l' (fun sp => ∃ n, blkF (!countsL ms) c.r = .error n ∧ sp = (c.go n).spot) E) (h : ∀ n s', blkF (!countsL ms) c.r = .ok n → St b s' ((dx, scD (c.go n)) :: l') → Q (.bool (decide (0 < n))) s') : wpAny (model prog w) A (call (.ref 209) args) Q E s := by
  subst ha
  have G2 := D.mem
  have G1 := D.up G0
  have hh := hi.hh
  k_extra "enter"
  rename_i L S1
  k_extra "w"
  refine' r_while (BlkI b l' L x dx c ms) ?turn (c.r.length + 1) ?base
  case base =>
    refine' ⟨0, _, _, ⟨?e1, Nat.lt_succ_self _⟩, ⟨?m1, ?m2⟩, ?st⟩
    case st =>
      change St b _ ((L, fr _) :: (dx, scD c) :: _)
      k_extra "st!"
    case m1 => k_extra "nm"
    case m2 => k_extra "nm"
    case e1 => show blkF _ c.r = _; unfold blkF; rw [shiftE_zero]; rfl
  case turn =>
    rintro n s3 R Z hR ⟨k, m, u, ⟨h1, h2⟩, ⟨m1, m2⟩, S3⟩
    have hlk : (c.go k).tl.length ≤ 1048576 := by rw [go_tl]; exact hl
    cases n with
    | zero => exact absurd h2 (Nat.not_lt_zero _)
    | succ n =>
      have G3k : ((c.go k).ml, mk ms) ∈ l' := by rw [go_ml]; exact G3
      k_extra "w"
      refine w_ite (fun hc => ?_) (fun hc => ?_)
      · have hc' : ¬ (c.go k).r.take 1 = T "" := nd_t hc
        rw [go_r] at hc'
        rw [blkS, if_neg hc'] at h1
        have hpos : 0 < (c.r.drop k).length := List.length_pos_iff.mpr fun z => hc' (by rw [z]; exact lit_nil.symm)
        k_extra "w"
        refine w_ite (fun hd => ?_) (fun hd => ?_)
        · have hd' : (c.go k).r.take 2 = T "#=" := of_decide_eq_true hd
          rw [go_r] at hd'
          rw [if_pos hd'] at h1
          k_extra "w"
          with_reducible refine' remark_c (by assumption) (by assumption) ?d ?g ?z ?hi ?r ?a ?err ?_
          case a => rfl
          case d => k_extra "del"
          case z => k_extra "len"
          case g => k_extra "mem"
          case r => k_extra "room"
          case hi => k_extra "hi"
          case err =>
            k_extra "er1"
            rintro sp ⟨h3, rfl⟩
            rw [go_r] at h3
            rw [h3] at h1
            exact ⟨k, by simpa [shiftE] using h1, rfl⟩
          intro j s4 hj S4
          rw [go_r] at hj
          rw [hj] at h1
          have hjp := remS_pos hj
          k_extra "w"
          refine' ⟨n, Nat.lt_succ_self _, k + j, _, _, ⟨?e1, ?e2⟩, ⟨?m1, ?m2⟩, ?st⟩
          case st =>
            rw [← go_add]
            k_extra "st!"
          case m1 => k_extra "nm"
          case m2 => k_extra "nm"
          case e1 => rw [h1]; simp only [shiftE_add, List.drop_drop]
          case e2 => simp only [List.length_drop] at h2 hpos ⊢; omega
        · have hd' : ¬ (c.go k).r.take 2 = T "#=" := of_decide_eq_false hd
          rw [go_r] at hd'
          rw [if_neg hd'] at h1
          k_extra "w"
          refine w_ite (fun he => ?_) (fun he => ?_)
          · have he' : (c.go k).r.take 1 = T "#" := of_decide_eq_true he
            rw [go_r] at he'
            rw [if_pos he'] at h1
            have hn : ¬ (c.r.drop k).take 1 ∈ [T "", T "\n"] := by
              rw [he']; decide +kernel
            have hjp : 1 ≤ lineS (c.r.drop k) := by rw [lineS_go hn]; omega
            k_extra "w"
            refine' r_while (LinI b l' L x dx c m k) ?turn2 (lineS (c.r.drop k)) ?base2
            case base2 => exact ⟨0, ⟨by omega, rfl⟩, by k_extra "st!"⟩
            case turn2 =>
              rintro i s4 R Z hR ⟨j, ⟨h3, h4⟩, S4⟩
              have hlj : (c.go (k + j)).tl.length ≤ 1048576 := by rw [go_tl]; exact hl
              k_extra "w"
              refine w_ite (fun hf => ?_) (fun hf => ?_)
              · have hf' : ¬ (c.go (k + j)).r.take 1 ∈ [T "", T "\n"] := nd_t hf
                rw [go_r] at hf'
                rw [lineS_go hf', List.drop_drop] at h4
                k_extra "w"
                refine ⟨i - 1, by omega, j + 1, ⟨by omega, by rw [← h4]; rfl⟩, ?_⟩
                change St b _ ((L, fr m) :: (dx, scD (c.go (k + j)).step) :: _)
                k_extra "st!"
              · have hf' : (c.go (k + j)).r.take 1 ∈ [T "", T "\n"] := nd_f hf
                rw [go_r] at hf'
                rw [lineS_stop hf'] at h4
                obtain rfl : j = lineS (c.r.drop k) := by omega
                k_extra "w"
                refine' ⟨n, Nat.lt_succ_self _, k + lineS (c.r.drop k), _, _, ⟨?e1, ?e2⟩, ⟨?m1, ?m2⟩, ?st⟩
                case st => k_extra "st!"
                case m1 => k_extra "nm"
                case m2 => k_extra "nm"
                case e1 => rw [h1]; simp only [shiftE_add, List.drop_drop]
                case e2 => simp only [List.length_drop] at h2 hpos ⊢; omega
          · have he' : ¬ (c.go k).r.take 1 = T "#" := of_decide_eq_false he
            rw [go_r] at he'
            rw [if_neg he'] at h1
            k_extra "w"
            refine w_ite (fun hf => ?_) (fun hf => ?_)
            · have hf' : isIn ((c.go k).r.take 1) (T " \t\r") = true := hf
              rw [go_r] at hf'
              rw [if_pos (.inl hf')] at h1
              k_extra "w"
              refine' ⟨n, Nat.lt_succ_self _, k + 1, _, _, ⟨?e1, ?e2⟩, ⟨?m1, ?m2⟩, ?st⟩
              case st =>
                change St b _ ((L, fr _) :: (dx, scD (c.go k).step) :: _)
                k_extra "st!"
              case m1 => k_extra "nm"
              case m2 => k_extra "nm"
              case e1 => rw [h1]; simp only [shiftE_add, List.drop_drop]
              case e2 => simp only [List.length_drop] at h2 hpos ⊢; omega
            · have hf' : isIn ((c.go k).r.take 1) (T " \t\r") = false := hf
              rw [go_r] at hf'
              k_extra "w"
              refine w_ite (fun hg => ?_) (fun hg => ?_)
              · have hg' : (c.go k).r.take 1 = T "\n" := of_decide_eq_true hg
                rw [go_r] at hg'
                k_extra "w"
                refine w_ite (fun hk => ?_) (fun hk => ?_)
                · have hk' : (!countsL ms) = true := hk
                  rw [if_pos (.inr ⟨hg', hk'⟩)] at h1
                  k_extra "w"
                  refine' ⟨n, Nat.lt_succ_self _, k + 1, _, _, ⟨?e1, ?e2⟩, ⟨?m1, ?m2⟩, ?st⟩
                  case st =>
                    change St b _ ((L, fr _) :: (dx, scD (c.go k).step) :: _)
                    k_extra "st!"
                  case m1 => k_extra "nm"
                  case m2 => k_extra "nm"
                  case e1 => rw [h1]; simp only [shiftE_add, List.drop_drop]
                  case e2 => simp only [List.length_drop] at h2 hpos ⊢; omega
                · have hk' : (!countsL ms) = false := hk
                  rw [if_neg (by rw [hf', hk']; simp)] at h1
                  k_extra "w"
                  refine q_bool (h k _ (by rw [h1]; rfl) (by k_extra "st!")) ?_
                  rw [go_at]; simp; omega
              · have hg' : ¬ (c.go k).r.take 1 = T "\n" := of_decide_eq_false hg
                rw [go_r] at hg'
                rw [if_neg (by rw [hf']; simp [hg'])] at h1
                k_extra "w"
                refine q_bool (h k _ (by rw [h1]; rfl) (by k_extra "st!")) ?_
                rw [go_at]; simp; omega
      · have hc' : (c.go k).r.take 1 = T "" := nd_f hc
        rw [go_r] at hc'
        rw [blkS, if_pos hc'] at h1
        k_extra "w"
        refine q_bool (h k _ (by rw [h1]; rfl) (by k_extra "st!")) ?_
        rw [go_at]; simp; omega
end
section
variable {prog : Program} {w : World} {A : Around} {E : Value → Shared → Prop} {b : Bs} {s : Shared} {l : Led} {x : Str} {t : Tok} {Q : Value → Shared → Prop}
noncomputable def KEYSL : List (List Nat) := [T "function", T "end", T "if", T "elseif", T "else", T "while", T "for", T "break", T "continue", T "return", T "let", T "local", T "global", T "const", T "struct", T "mutable", T "abstract", T "macro", T "begin", T "quote", T "try", T "catch", T "finally", T "do", T "where"]
theorem in_KEYS (X : Wd (KK w) b) (S : St b s l) (h : Q (.bool (decide (x.cps.toList ∈ KEYSL))) s) : wpAny (model prog w) A (compareOp .In (.str x t) (.ref 89)) Q E s :=
  in_tup_at ⟨_, X.inS S 89 _ rfl, rfl, _, rfl⟩ rfl h
noncomputable def OPENERSL : List (List Nat) := [T "function", T "if", T "while", T "for", T "let", T "struct", T "abstract", T "macro", T "begin", T "quote", T "try", T "do"]
theorem in_OPENERS (X : Wd (KK w) b) (S : St b s l) (h : Q (.bool (decide (x.cps.toList ∈ OPENERSL))) s) : wpAny (model prog w) A (compareOp .In (.str x t) (.ref 90)) Q E s :=
  in_tup_at ⟨_, X.inS S 90 _ rfl, rfl, _, rfl⟩ rfl h
end
section
variable {prog : Program} {w : World} {A : Around} {E : Value → Shared → Prop} {b : Bs} {s : Shared} {l l' : Led} {x dx f : Addr} {c : Sc} {ms : List (List Nat)} {Q : Value → Shared → Prop}
theorem nsign_c {l₁ : List Nat} {t : Tok} {args : List Value} (X : Wd (KK w) b) (S : St b s l) (hz : l₁.length ≤ 1) (hr : Room A 3) (ha : args = [.str (tx l₁) t])
    (h : ∀ s', St b s' l → Q (.bool (nameSign l₁)) s') : wpAny (model prog w) A (call (.ref 144) args) Q E s := by
  subst ha
  k_extra "enter"
  k_extra "w"
  refine w_ite (fun hc => ?_) (fun hc => ?_)
  · k_extra "w"
    exact q_bool (h _ (by k_extra "st!")) (by unfold nameSign; rw [hc]; rfl)
  · k_extra "w"
    refine w_ite (fun hd => ?_) (fun hd => ?_)
    · k_extra "w"
      refine r_in_str hz ?_
      k_extra "w"
      exact q_bool (h _ (by k_extra "st!")) (by unfold nameSign; rw [hc, show (!decide (l₁ = T "")) = true from hd]; rfl)
    · k_extra "w"
      exact q_bool (h _ (by k_extra "st!")) (by unfold nameSign; rw [hc, show (!decide (l₁ = T "")) = false from hd]; rfl)
end
/-- a while whose end is told once -/
theorem r_whileP {prog : Program} {w : World} {A : Around} {E : Value → Shared → Prop} {s : Shared} {env : Env} {test : Expr} {body : List Stmt} {pos : Pos} {Q : Flow → Shared → Prop} (P : Shared → Prop) (I : Nat → Shared → Prop)
    (turn : ∀ n s R Z, LpQ (fun s => ∃ m, m < n ∧ I m s) P Q R Z → I n s → WTurn (model prog w) A env test body R Z E s)
    (done : ∀ s, P s → Q .next s) (n : Nat) (h : I n s) : wpAny (model prog w) A (exec (.While test body [] pos) env) Q E s :=
  r_while I (fun n s R Z hR hI => turn n s R Z ⟨hR.next, hR.cont, fun s h => hR.brk s (done s h), hR.ret, fun s h => hR.els s (done s h)⟩ hI) n h
theorem words_h5_name : True := by
 (k_with "ct.h5_name0" => first
  | (focus ((with_reducible refine' nsign_c ?_ ?_ ?_ ?_ ?_ ?_); (rotate_right 6); (· with_reducible assumption); (· with_reducible assumption); (rotate_left 2); (· rfl); (rotate_right 2); (· exact sg_len); (· k_extra "room"); (intro _ _)))
  | (focus ((with_reducible refine' idx_c ?_ ?_ ?_ ?_ ?_ ?_ ?_ ?_ ?_ ?_); (rotate_right 10); (· with_reducible assumption); (· with_reducible assumption); (rotate_left 6); (· rfl); (rotate_right 6); (· k_extra "mem"); (· k_extra "mem"); (· k_extra "mem"); (· assumption); (· assumption); (· k_extra "room"); (intro _ _)))
  | fail "none")
 (k_with "op.h5_name1" => first
  | (focus ((with_reducible refine' in_KEYS ?_ ?_ ?_); (rotate_right 3); (· with_reducible assumption); (· with_reducible assumption)))
  | (focus ((with_reducible refine' in_OPENERS ?_ ?_ ?_); (rotate_right 3); (· with_reducible assumption); (· with_reducible assumption)))
  | fail "none")
 trivial
local macro_rules
  | `(tactic| k_extra "ct") => `(tactic| k_extra "ct.h5_name0")
  | `(tactic| k_extra "op") => `(tactic| k_extra "op.h5_name1")
noncomputable def nameP (r : List Nat) : Bool := nameSign (r.take 1) || (decide (r.take 1 = T "!") && !decide ((r.drop 1).take 1 = T "="))
noncomputable def runN : List Nat → Nat
  | [] => 0
  | a :: r => if nameP (a :: r) then runN r + 1 else 0
theorem nameP_nil : nameP [] = false := by decide +kernel
theorem runN_go {r : List Nat} (h : nameP r = true) : runN r = runN (r.drop 1) + 1 := by
  cases r with
  | nil => rw [nameP_nil] at h; cases h
  | cons a r => exact if_pos h
theorem runN_stop {r : List Nat} (h : nameP r = false) : runN r = 0 := by
  cases r with
  | nil => rfl
  | cons a r => exact if_neg (by rw [h]; decide)
noncomputable def nameLen (r : List Nat) : Nat := 1 + runN (r.drop 1)
noncomputable def nameKind (ms : List (List Nat)) (x : List Nat) : List Nat := if x = T "end" ∧ idxEnd ms.reverse = true then T "name" else if x ∈ KEYSL then T "key" else T "name"
theorem q_str {Q : Value → Shared → Prop} {z z' : List Nat} {t : Tok} {s : Shared} (h : Q (.str (tx z) t) s) (e : z = z') : Q (.str (tx z') t) s := e ▸ h
inductive NmP (b : Bs) (l' : Led) (L x dx : Addr) (c : Sc) (s : Shared) : Prop
  | mk (m : Str → Option Value) (u : Tok)
    (h1 : m "self" = some (.ref x) ∧ m "begun" = some (.int c.at_ u))
    (h2 : St b s ((L, fr m) :: (dx, scD (c.go (nameLen c.r))) :: l'))
inductive NmI (b : Bs) (l' : Led) (L x dx : Addr) (c : Sc) (n : Nat) (s : Shared) : Prop
  | mk (j : Nat) (m : Str → Option Value) (u : Tok)
    (h1 : nameLen c.r = j + n ∧ runN (c.r.drop j) = n)
    (h2 : m "self" = some (.ref x) ∧ m "begun" = some (.int c.at_ u))
    (h3 : St b s ((L, fr m) :: (dx, scD (c.go j)) :: l'))
section
variable {prog : Program} {w : World} {A : Around} {E : Value → Shared → Prop} {b : Bs} {s : Shared} {l l' : Led} {x dx f : Addr} {c : Sc} {ms : List (List Nat)} {Q : Value → Shared → Prop}
theorem name_c {args : List Value} (X : Wd (KK w) b) (S : St b s l) (D : Del l dx (scD c) l') (G0 : (x, inst 289 dx) ∈ l') (G3 : (c.ml, mk ms) ∈ l') (hl : c.tl.length ≤ 1048576) (hh : A.handled = none) (hz : ms.length ≤ 1048576) (hr : Room A 6) (ha : args = [.ref x])
    (h : ∀ t s', St b s' ((dx, scD (c.go (nameLen c.r))) :: l') → Q (.str (tx (nameKind ms (c.r.take (nameLen c.r)))) t) s') : wpAny (model prog w) A (call (.ref 237) args) Q E s := by
  subst ha
  have G2 := D.mem
  have G1 := D.up G0
  k_extra "enter"
  rename_i L S1
  k_extra "w"
  refine' r_whileP (NmP b l' L x dx c) (NmI b l' L x dx c) ?turn ?done (runN (c.r.drop 1)) ?base
  case base =>
    refine' ⟨1, _, _, ⟨rfl, rfl⟩, ⟨?m1, ?m2⟩, ?st⟩
    case st =>
      change St b _ ((L, fr _) :: (dx, scD c.step) :: _)
      k_extra "st!"
    case m1 => k_extra "nm"
    case m2 => k_extra "nm"
  case turn =>
    rintro n s3 R Z hR ⟨j, m, u, ⟨h1, h2⟩, ⟨m1, m2⟩, S3⟩
    have hlk : (c.go j).tl.length ≤ 1048576 := by rw [go_tl]; exact hl
    have G3k : ((c.go j).ml, mk ms) ∈ l' := by rw [go_ml]; exact G3
    k_extra "w"
    have st : ∀ s4, nameP (c.r.drop j) = true → St b s4 ((L, fr m) :: (dx, scD (c.go j).step) :: l') → ∃ i < n, NmI b l' L x dx c i s4 := fun s4 hp S4 => by
      rw [runN_go hp, List.drop_drop] at h2
      exact ⟨n - 1, by omega, j + 1, m, u, ⟨by omega, by rw [← h2]; rfl⟩, ⟨m1, m2⟩, S4⟩
    have en : ∀ s4, nameP (c.r.drop j) = false → St b s4 ((L, fr m) :: (dx, scD (c.go j)) :: l') → j = nameLen c.r := fun s4 hp _ => by
      rw [runN_stop hp] at h2; omega
    refine w_ite (fun hc => ?_) (fun hc => ?_)
    · have hc' : nameSign ((c.go j).r.take 1) = true := hc
      rw [go_r] at hc'
      k_extra "w"
      obtain ⟨i, hi, z⟩ := st _ (by unfold nameP; rw [hc']; rfl) (by k_extra "st!")
      exact ⟨i, hi, z⟩
    · have hc' : nameSign ((c.go j).r.take 1) = false := hc
      rw [go_r] at hc'
      k_extra "w"
      refine w_ite (fun hd => ?_) (fun hd => ?_)
      · have hd' : (c.go j).r.take 1 = T "!" := of_decide_eq_true hd
        rw [go_r] at hd'
        k_extra "w"
        refine w_ite (fun he => ?_) (fun he => ?_)
        · have he' : ¬ ((c.go j).r.drop 1).take 1 = T "=" := nd_t he
          rw [go_r] at he'
          k_extra "w"
          obtain ⟨i, hi, z⟩ := st _ (by unfold nameP; rw [hc', decide_eq_true hd', decide_eq_false he']; rfl) (by k_extra "st!")
          exact ⟨i, hi, z⟩
        · have he' : ((c.go j).r.drop 1).take 1 = T "=" := nd_f he
          rw [go_r] at he'
          obtain rfl := en _ (by unfold nameP; rw [hc', decide_eq_true he']; simp) S3
          k_extra "w"
          exact ⟨m, u, ⟨m1, m2⟩, by k_extra "st!"⟩
      · have hd' : ¬ (c.go j).r.take 1 = T "!" := of_decide_eq_false hd
        rw [go_r] at hd'
        obtain rfl := en _ (by unfold nameP; rw [hc', decide_eq_false hd']; simp) S3
        k_extra "w"
        exact ⟨m, u, ⟨m1, m2⟩, by k_extra "st!"⟩
  case done =>
    rintro s3 ⟨m, u, ⟨m1, m2⟩, S3⟩
    have hlk : (c.go (nameLen c.r)).tl.length ≤ 1048576 := by rw [go_tl]; exact hl
    have G3k : ((c.go (nameLen c.r)).ml, mk ms) ∈ l' := by rw [go_ml]; exact G3
    k_extra "w"
    refine' r_slice (i := c.at_) (j := (c.go (nameLen c.r)).at_) (by assumption) rfl rfl (by rw [go_at]; omega) ?z ?_
    case z => assumption
    rw [go_tl, go_at, show c.at_ + nameLen c.r - c.at_ = nameLen c.r by omega]
    change ∀ u s', St b s' _ → _
    intro _ _ _
    k_extra "w"
    refine w_ite (fun hc => ?_) (fun hc => ?_)
    · have hc' : c.r.take (nameLen c.r) = T "end" := of_decide_eq_true hc
      k_extra "w"
      refine w_ite (fun hd => ?_) (fun hd => ?_)
      · k_extra "w"
        refine q_str (z' := T "name") (h _ _ (by k_extra "st!")) ?_
        exact if_pos ⟨hc', hd⟩
      · have hn : ¬ (c.r.take (nameLen c.r) = T "end" ∧ idxEnd ms.reverse = true) := fun z => by rw [z.2] at hd; cases hd
        k_extra "w"
        refine w_ite (fun he => ?_) (fun he => ?_)
        · k_extra "w"
          refine q_str (z' := T "key") (h _ _ (by k_extra "st!")) ?_
          exact (if_neg hn).trans (if_pos (of_decide_eq_true he))
        · k_extra "w"
          refine q_str (z' := T "name") (h _ _ (by k_extra "st!")) ?_
          exact (if_neg hn).trans (if_neg (of_decide_eq_false he))
    · have hn : ¬ (c.r.take (nameLen c.r) = T "end" ∧ idxEnd ms.reverse = true) := fun z => of_decide_eq_false hc z.1
      k_extra "w"
      refine w_ite (fun he => ?_) (fun he => ?_)
      · k_extra "w"
        refine q_str (z' := T "key") (h _ _ (by k_extra "st!")) ?_
        exact (if_neg hn).trans (if_pos (of_decide_eq_true he))
      · k_extra "w"
        refine q_str (z' := T "name") (h _ _ (by k_extra "st!")) ?_
        exact (if_neg hn).trans (if_neg (of_decide_eq_false he))
end
/-- what a word knows -/
structure Wrd where
  kind : List Nat
  text : List Nat
  sp : Addr
  val : Value
  blank : Bool
structure WrMap (k : Wrd) (m : Str → Option Value) : Prop where
  kind : ∃ t, m "kind" = some (.str (tx k.kind) t)
  text : ∃ t, m "text" = some (.str (tx k.text) t)
  spot : m "spot" = some (.ref k.sp)
  value : m "value" = some k.val
  blank : m "has_blank" = some (.bool k.blank)
  row : m "row" = none
noncomputable def wrD (k : Wrd) : Cell := fun o => ∃ m, ids 5 m o ∧ WrMap k m
section
variable {prog : Program} {w : World} {A : Around} {E : Value → Shared → Prop} {b : Bs} {s : Shared} {l l' : Led} {x dx : Addr} {k : Wrd} {ex : Bool} {pl : Sem Bool} {Q : Value → Shared → Prop}
theorem wr_open (S : St b s l) (G2 : (dx, wrD k) ∈ l) : ∃ m, WrMap k m ∧ ∃ o, s.heap.get? dx = some o ∧ ids 5 m o :=
  let ⟨o, ho, m, hi, hm⟩ := S.get G2; ⟨m, hm, o, ho, hi⟩
theorem wr_kind (X : Wd (KK w) b) (S : St b s l) (G1 : (x, inst 126 dx) ∈ l) (G2 : (dx, wrD k) ∈ l) (h : Q (.str (tx k.kind) (tkOf s.heap dx "kind")) (Tk s)) : wpAny (model prog w) A (getAttr (.ref x) "kind" ex) Q E s := by
  obtain ⟨m, hm, ho⟩ := wr_open S G2
  obtain ⟨t, ht⟩ := hm.kind
  rw [tkOf_str ho ht] at h
  exact r_getattrS X S G1 ho (by kernel_rfl) ht rfl h
theorem wr_text (X : Wd (KK w) b) (S : St b s l) (G1 : (x, inst 126 dx) ∈ l) (G2 : (dx, wrD k) ∈ l) (h : Q (.str (tx k.text) (tkOf s.heap dx "text")) (Tk s)) : wpAny (model prog w) A (getAttr (.ref x) "text" ex) Q E s := by
  obtain ⟨m, hm, ho⟩ := wr_open S G2
  obtain ⟨t, ht⟩ := hm.text
  rw [tkOf_str ho ht] at h
  exact r_getattrS X S G1 ho (by kernel_rfl) ht rfl h
theorem wr_spot (X : Wd (KK w) b) (S : St b s l) (G1 : (x, inst 126 dx) ∈ l) (G2 : (dx, wrD k) ∈ l) (h : Q (.ref k.sp) (Tk s)) : wpAny (model prog w) A (getAttr (.ref x) "spot" ex) Q E s := by
  obtain ⟨m, hm, ho⟩ := wr_open S G2
  exact r_getattrS X S G1 ho (by kernel_rfl) hm.spot rfl h
theorem wr_value (X : Wd (KK w) b) (S : St b s l) (G1 : (x, inst 126 dx) ∈ l) (G2 : (dx, wrD k) ∈ l) (hh : handedIn k.val = true) (h : ∀ s', St b s' l → Q k.val s') : wpAny (model prog w) A (getAttr (.ref x) "value" ex) Q E s := by
  obtain ⟨m, hm, ho⟩ := wr_open S G2
  exact r_getattr' X S G1 ho (by kernel_rfl) hm.value hh h
theorem wr_blank (X : Wd (KK w) b) (S : St b s l) (G1 : (x, inst 126 dx) ∈ l) (G2 : (dx, wrD k) ∈ l) (h : Q (.bool k.blank) (Tk s)) : wpAny (model prog w) A (getAttr (.ref x) "has_blank" ex) Q E s := by
  obtain ⟨m, hm, ho⟩ := wr_open S G2
  exact r_getattrS X S G1 ho (by kernel_rfl) hm.blank rfl h
end
section
variable {prog : Program} {w : World} {A : Around} {E : Value → Shared → Prop} {b : Bs} {s : Shared} {l l' : Led} {x dx sp : Addr} {k : Wrd} {Q : Value → Shared → Prop}
theorem winit_c {kind text : List Nat} {t1 t2 : Tok} {val : Value} {bl : Bool} {args : List Value} (X : Wd (KK w) b) (S : St b s l) (D : Del l dx (ids 0 fun _ => none) l') (G0 : (x, inst 126 dx) ∈ l') (hr : Room A 1)
    (ha : args = [.ref x, .str (tx kind) t1, .str (tx text) t2, .ref sp, val, .bool bl])
    (h : ∀ s', St b s' ((dx, wrD ⟨kind, text, sp, val, bl⟩) :: l') → Q .none s') : wpAny (model prog w) A (call (.ref 108) args) Q E s := by
  subst ha
  have G1 := D.up G0
  k_extra "enter"
  rename_i L S1
  k_extra "wa"
  refine h _ ?_
  refine' StR.weak (P := ids (0 + 1 + 1 + 1 + 1 + 1) _) ?st (fun o q => ⟨_, q, ?m⟩)
  case st => k_extra "st!"
  case m => exact ⟨⟨t1, by k_extra "nm"⟩, ⟨t2, by k_extra "nm"⟩, by k_extra "nm", by k_extra "nm", by k_extra "nm", by k_extra "nm"⟩
theorem word_c {kind text : List Nat} {t1 t2 : Tok} {val : Value} {bl : Bool} {args : List Value} (X : Wd (KK w) b) (S : St b s l) (hr : Room A 3)
    (ha : args = [.str (tx kind) t1, .str (tx text) t2, .ref sp, val, .bool bl])
    (h : ∀ x dx s', St b s' ((x, inst 126 dx) :: (dx, wrD ⟨kind, text, sp, val, bl⟩) :: l) → Q (.ref x) s') : wpAny (model prog w) A (call (.ref 126) args) Q E s := by
  subst ha
  refine r_make (f := 108) X S (by kernel_rfl) (by kernel_rfl) (by kernel_rfl) fun x dx s' S' => ?_
  exact winit_c X (S'.perm (List.Perm.swap _ _ _)) .head List.mem_cons_self (hr.made (by decide)) rfl fun s2 S2 => ⟨rfl, h x dx s2 (S2.perm (List.Perm.swap _ _ _))⟩
end
theorem is_nn {M : Model} {A : Around} {E : Value → Shared → Prop} {s : Shared} {Q : Value → Shared → Prop} (h : Q (.bool true) s) : wpAny M A (compareOp .Is .none .none) Q E s := wpAny_is_self (by rfl) h
theorem is_rn {M : Model} {A : Around} {E : Value → Shared → Prop} {s : Shared} {a : Addr} {Q : Value → Shared → Prop} (h : Q (.bool false) s) : wpAny M A (compareOp .Is (.ref a) .none) Q E s := is_ref_none h
theorem words_i1_word : True := by
 (k_with "sc.i1_word0" => first
  | (focus ((with_reducible refine' wr_kind ?_ ?_ ?_ ?_ ?_); (rotate_right 5); (· with_reducible assumption); (· with_reducible assumption); (· with_reducible k_extra "mem"); (· with_reducible k_extra "mem")))
  | (focus ((with_reducible refine' wr_text ?_ ?_ ?_ ?_ ?_); (rotate_right 5); (· with_reducible assumption); (· with_reducible assumption); (· with_reducible k_extra "mem"); (· with_reducible k_extra "mem")))
  | (focus ((with_reducible refine' wr_spot ?_ ?_ ?_ ?_ ?_); (rotate_right 5); (· with_reducible assumption); (· with_reducible assumption); (· with_reducible k_extra "mem"); (· with_reducible k_extra "mem")))
  | (focus ((with_reducible refine' wr_blank ?_ ?_ ?_ ?_ ?_); (rotate_right 5); (· with_reducible assumption); (· with_reducible assumption); (· with_reducible k_extra "mem"); (· with_reducible k_extra "mem")))
  | fail "none")
 (k_with "op.i1_word1" => first | with_reducible refine is_nn ?_ | with_reducible refine is_rn ?_)
 trivial
local macro_rules
  | `(tactic| k_extra "sc") => `(tactic| k_extra "sc.i1_word0")
  | `(tactic| k_extra "op") => `(tactic| k_extra "op.i1_word1")
section
variable {prog : Program} {w : World} {A : Around} {E : Value → Shared → Prop} {b : Bs} {s : Shared} {l l' : Led} {x dx sp : Addr} {Q : Value → Shared → Prop}
theorem fin_sc {ml : Addr} {tl : List Nat} {t1 tk t2 t3 t4 : Tok} {i : Int} {R : Prop}
    (S : St b s ((dx, ids (0 + 1 + 1 + 1 + 1 + 1 + 1 + 1) (up (up (up (up (up (up (up (fun _ => none) "text" (.str (tx tl) t1)) "nested" (.int i tk)) "at" (.int 0 t2)) "line" (.int 1 t3)) "line_start" (.int 0 t4)) "open_marks" (.ref ml)) "last" .none)) :: (ml, lst []) :: l'))
    (h : St b s ((dx, scD ⟨tl, i, 0, 1, 0, ml, .none⟩) :: (ml, mk []) :: l') → R) : R := by
  refine h ((((S.weak fun o q => ⟨_, q, ?_⟩).perm (List.Perm.swap _ _ _)).weak fun o q => ⟨[], rfl, q⟩).perm (List.Perm.swap _ _ _))
  exact ⟨⟨t1, by k_extra "nm"⟩, ⟨tk, by k_extra "nm"⟩, ⟨t2, by k_extra "nm"⟩, ⟨t3, by k_extra "nm"⟩, ⟨t4, by k_extra "nm"⟩, by k_extra "nm", by k_extra "nm", fun y hy =>
    (up_ne fun e => hy (by rw [e]; decide)).trans ((up_ne fun e => hy (by rw [e]; decide)).trans ((up_ne fun e => hy (by rw [e]; decide)).trans ((up_ne fun e => hy (by rw [e]; decide)).trans ((up_ne fun e => hy (by rw [e]; decide)).trans ((up_ne fun e => hy (by rw [e]; decide)).trans (up_ne fun e => hy (by rw [e]; decide)))))))⟩
theorem sinit_c {tl : List Nat} {t1 tk : Tok} {i : Int} {args : List Value} (X : Wd (KK w) b) (S : St b s l) (D : Del l dx (ids 0 fun _ => none) l') (G0 : (x, inst 289 dx) ∈ l') (hr : Room A 1)
    (ha : args = [.ref x, .str (tx tl) t1, .int i tk] ∨ (args = [.ref x, .str (tx tl) t1] ∧ i = 0 ∧ tk = 560))
    (h : ∀ ml s', St b s' ((dx, scD ⟨tl, i, 0, 1, 0, ml, .none⟩) :: (ml, mk []) :: l') → Q .none s') : wpAny (model prog w) A (call (.ref 166) args) Q E s := by
  have G1 := D.up G0
  refine' r_call (binds := [("self", .ref x), ("text", .str (tx tl) t1), ("nested", .int i tk)]) X S ?a1 ?a2 ?a3 ?a4 ?a5 ?a6 ?a7 ?a8 ?a9 ?h
  case a1 => exact rfl
  case a2 => kernel_rfl
  case a3 => exact hr.lim
  case a4 => rcases ha with rfl | ⟨rfl, rfl, rfl⟩ <;> exact kp_binds (X.inS S) fun _ => by kernel_rfl
  case a5 => exact locs rfl
  case a6 => decide
  case a7 => rfl
  case a8 => rfl
  case a9 => rfl
  case h =>
    intro s1 L S1
    k_extra "wa"
    refine' fin_sc (l' := l') (t1 := t1) (tk := tk) (by k_extra "st!") ?_
    intro S9
    exact h _ _ S9
theorem scanner_c {tl : List Nat} {t1 tk : Tok} {i : Int} {args : List Value} (X : Wd (KK w) b) (S : St b s l) (hr : Room A 3)
    (ha : args = [.str (tx tl) t1, .int i tk] ∨ (args = [.str (tx tl) t1] ∧ i = 0 ∧ tk = 560))
    (h : ∀ x dx ml s', St b s' ((x, inst 289 dx) :: (dx, scD ⟨tl, i, 0, 1, 0, ml, .none⟩) :: (ml, mk []) :: l) → Q (.ref x) s') : wpAny (model prog w) A (call (.ref 289) args) Q E s := by
  refine r_make (f := 166) X S (by kernel_rfl) (by kernel_rfl) (by kernel_rfl) fun x dx s' S' => ?_
  exact sinit_c (i := i) (tk := tk) (t1 := t1) (tl := tl) X (S'.perm (List.Perm.swap _ _ _)) .head List.mem_cons_self (hr.made (by decide)) (by rcases ha with rfl | ⟨rfl, h1, h2⟩; exact .inl rfl; exact .inr ⟨rfl, h1, h2⟩)
    fun ml s2 S2 => ⟨rfl, h x dx ml s2 (S2.ext (.cons (.tail (.tail .head)) .all))⟩
end
noncomputable def endsOp (k : Wrd) : Bool := decide (k.kind ∈ [T "name", T "int", T "char", T "text"]) || (decide (k.text ∈ [T ")", T "]", T "}", T "end", T "..."]) && decide (k.kind ∈ [T "sign", T "key"]))
/-- what stands behind: nothing or a word -/
noncomputable def LastIs (l : Led) (v : Value) (e : Bool) : Prop := (v = .none ∧ e = false) ∨ ∃ x dx k, v = .ref x ∧ (x, inst 126 dx) ∈ l ∧ (dx, wrD k) ∈ l ∧ e = endsOp k
section
variable {prog : Program} {w : World} {A : Around} {E : Value → Shared → Prop} {b : Bs} {s : Shared} {l l' : Led} {x dx : Addr} {k : Wrd} {Q : Value → Shared → Prop}
theorem LastIs.mono {v : Value} {e : Bool} (h : LastIs l v e) (m : ∀ p ∈ l, p ∈ l') : LastIs l' v e := by
  rcases h with h | ⟨x, dx, k, h1, h2, h3, h4⟩
  · exact .inl h
  · exact .inr ⟨x, dx, k, h1, m _ h2, m _ h3, h4⟩
theorem ends_c {v : Value} {e : Bool} {args : List Value} (X : Wd (KK w) b) (S : St b s l) (hl : LastIs l v e) (hr : Room A 1) (ha : args = [v])
    (h : ∀ s', St b s' l → Q (.bool e) s') : wpAny (model prog w) A (call (.ref 151) args) Q E s := by
  subst ha
  rcases hl with ⟨rfl, rfl⟩ | ⟨x, dx, k, rfl, G1, G2, rfl⟩
  · k_extra "enter"
    k_extra "w"
    exact h _ (by k_extra "st!")
  · k_extra "enter"
    k_extra "w"
    refine w_ite (fun hc => ?_) (fun hc => ?_)
    · k_extra "w"
      refine q_bool (h _ (by k_extra "st!")) ?_
      unfold endsOp; rw [show decide (k.kind ∈ [T "name", T "int", T "char", T "text"]) = true from hc]; rfl
    · k_extra "w"
      refine w_ite (fun hd => ?_) (fun hd => ?_)
      · k_extra "w"
        refine q_bool (h _ (by k_extra "st!")) ?_
        unfold endsOp; rw [show decide (k.kind ∈ [T "name", T "int", T "char", T "text"]) = false from hc, show decide (k.text ∈ [T ")", T "]", T "}", T "end", T "..."]) = true from hd]; rfl
      · k_extra "w"
        refine q_bool (h _ (by k_extra "st!")) ?_
        unfold endsOp; rw [show decide (k.kind ∈ [T "name", T "int", T "char", T "text"]) = false from hc, show decide (k.text ∈ [T ")", T "]", T "}", T "end", T "..."]) = false from hd]; exact hd.symm
end
noncomputable def closeOf (x : List Nat) : Option (List Nat) := if x = T "(" then some (T ")") else if x = T "[" then some (T "]") else if x = T "{" then some (T "}") else none
theorem tx_eq (a : List Nat) (y : Str) : decide (tx a = y) = decide (a = y.cps.toList) := by
  rw [show y = tx y.cps.toList from rfl, decide_eq_decide]; exact tx_inj
noncomputable def brL : List (Str × Tok × Value) := [("(", 410, .str ")" 411), ("[", 412, .str "]" 413), ("{", 414, .str "}" 415)]
theorem br_at (a : List Nat) : (closeOf a = none ∧ tabAt brL (tx a) = none) ∨ ∃ c t, closeOf a = some c ∧ tabAt brL (tx a) = some (.str (tx c) t) := by
  unfold tabAt brL closeOf
  simp only [List.find?_cons, tx_eq, List.find?_nil]
  by_cases h1 : a = T "("
  · subst h1; exact .inr ⟨_, 411, if_pos rfl, rfl⟩
  · rw [decide_eq_false h1, if_neg h1]
    by_cases h2 : a = T "["
    · subst h2; exact .inr ⟨_, 413, if_pos rfl, rfl⟩
    · rw [decide_eq_false h2, if_neg h2]
      by_cases h3 : a = T "{"
      · subst h3; exact .inr ⟨_, 415, if_pos rfl, rfl⟩
      · rw [decide_eq_false h3, if_neg h3]; exact .inl ⟨rfl, rfl⟩
section
variable {prog : Program} {w : World} {A : Around} {E : Value → Shared → Prop} {b : Bs} {s : Shared} {l : Led} {a : List Nat} {t : Tok}
theorem br_ho (X : Wd (KK w) b) (S : St b s l) : s.heap.get? 92 = some ⟨.type "dict", none, .dict (tabOf w.params brL) 3, #[]⟩ := X.inS S 92 _ rfl
theorem in_BR {Q : Value → Shared → Prop} (X : Wd (KK w) b) (S : St b s l) (h : ∀ s', St b s' l → Q (.bool (closeOf a).isSome) s') : wpAny (model prog w) A (compareOp .In (.str (tx a) t) (.ref 92)) Q E s := by
  refine in_tabOf (br_ho X S) (by decide) ?_
  rcases br_at a with ⟨h1, h2⟩ | ⟨c, u, h1, h2⟩
  · rw [h2]; have := h { s with toks := s.toks + 1 } S; rw [h1] at this; exact this
  · rw [h2]; have := h { s with toks := s.toks + 1 } S; rw [h1] at this; exact this
theorem m_BR {pl : Sem Bool} {Q : Value → List Value → Shared → Prop} (X : Wd (KK w) b) (S : St b s l) (h : Q (.builtin "dict.get") [.ref 92] s) : wpAny (model prog w) A (getMethod (.ref 92) "get" pl) (uncur Q) E s := meth_tabOf (br_ho X S) h
theorem get_BR {Q : Value → Shared → Prop} (X : Wd (KK w) b) (S : St b s l) (h : ∀ v s', (closeOf a = none ∧ v = .none) ∨ (∃ c t, closeOf a = some c ∧ v = .str (tx c) t) → St b s' l → Q v s') :
    wpAny (model prog w) A (call (.builtin "dict.get") [.ref 92, .str (tx a) t]) Q E s := by
  refine get1_tabOf (br_ho X S) (by decide) ?_
  rcases br_at a with ⟨h1, h2⟩ | ⟨c, u, h1, h2⟩
  · rw [h2]; exact h _ _ (.inl ⟨h1, rfl⟩) S
  · rw [h2]; exact h _ _ (.inr ⟨c, u, h1, rfl⟩) S
theorem ne_none_str {x : Str} {Q : Value → Shared → Prop} (h : Q (.bool true) s) : wpAny (model prog w) A (compareOp .NotEq .none (.str x t)) Q E s := SeqAt.RcNeAt.none_str x t prog w E Q h
end
theorem words_i4_tabs : True := by
 (k_with "op.i4_tabs0" => first
  | (focus ((with_reducible refine' in_BR ?_ ?_ ?_); (rotate_right 3); (· with_reducible assumption); (· with_reducible assumption); (intro _ _)))
  | with_reducible refine ne_none_str ?_
  | fail "none")
 (k_with "x1.i4_tabs1" => first
  | (focus ((with_reducible refine' m_BR ?_ ?_ ?_); (rotate_right 3); (· with_reducible assumption); (· with_reducible assumption)))
  | fail "none")
 trivial
local macro_rules
  | `(tactic| k_extra "op") => `(tactic| k_extra "op.i4_tabs0")
  | `(tactic| k_extra "x1") => `(tactic| k_extra "x1.i4_tabs1")
noncomputable def noteS (ms : List (List Nat)) (k : Wrd) (e : Bool) : Option (List (List Nat)) :=
  if k.kind = T "sign" ∧ (closeOf k.text).isSome = true then some (ms ++ [k.text])
  else if k.kind = T "sign" ∧ k.text ∈ [T ")", T "]", T "}"] then (if ms = [] then none else if ms.getLast?.bind closeOf = some k.text then some ms.dropLast else none)
  else if k.kind = T "key" ∧ k.text ∈ OPENERSL then (if k.text ∈ [T "for", T "if"] ∧ countsL ms = false ∧ e = true then some ms else some (ms ++ [T "block"]))
  else if k.kind = T "key" ∧ k.text = T "end" then (if ms.getLast? = some (T "block") then some ms.dropLast else none)
  else some ms
section
variable {prog : Program} {w : World} {A : Around} {E : Value → Shared → Prop} {b : Bs} {s : Shared} {l l' l'' : Led} {x dx wx wd : Addr} {c : Sc} {ms : List (List Nat)} {k : Wrd} {e : Bool} {p q : Int} {t1 t2 : Tok} {Q : Value → Shared → Prop}
theorem sc_last' (X : Wd (KK w) b) (S : St b s l) (G1 : (x, inst 289 dx) ∈ l) (G2 : (dx, scD c) ∈ l) {ex : Bool} (hL : LastIs l' c.last e) (h : ∀ s', St b s' l → Q c.last s') : wpAny (model prog w) A (getAttr (.ref x) "last" ex) Q E s :=
  sc_last X S G1 G2 (by rcases hL with ⟨h1, _⟩ | ⟨a, d, k, h1, _⟩ <;> rw [h1] <;> rfl) h
theorem note_c {args : List Value} (X : Wd (KK w) b) (S : St b s l) (D : Del l c.ml (mk ms) l') (W3 : Del l' k.sp (tup [.int p t1, .int q t2]) l'') (G0 : (x, inst 289 dx) ∈ l'') (G2 : (dx, scD c) ∈ l'') (W1 : (wx, inst 126 wd) ∈ l'') (W2 : (wd, wrD k) ∈ l'')
    (hL : LastIs l'' c.last e) (hi : Hi A l'') (hz : ms.length ≤ 1048576) (hr : Room A 6) (ha : args = [.ref x, .ref wx])
    (err : Lets b l'' (fun sp => noteS ms k e = none ∧ sp = (p, q)) E) (h : ∀ ms' s', noteS ms k e = some ms' → St b s' ((c.ml, mk ms') :: l') → Q .none s') : wpAny (model prog w) A (call (.ref 251) args) Q E s := by
  subst ha
  have hh := hi.hh
  have S0 : St b s ((c.ml, mk ms) :: (k.sp, tup [.int p t1, .int q t2]) :: l'') := S.ext (.cons D (.cons W3 .all))
  have h' : ∀ ms' s', noteS ms k e = some ms' → St b s' ((c.ml, mk ms') :: (k.sp, tup [.int p t1, .int q t2]) :: l'') → Q .none s' := fun ms' s' h1 S1 => h ms' s' h1 (S1.perm (.cons _ W3.perm.symm))
  clear h S D W3
  have nSK : ¬ T "sign" = T "key" := by decide +kernel
  k_extra "enter"
  rename_i L S1
  k_extra "w"
  refine w_ite (fun hc => ?_) (fun hc => ?_)
  · have hc' : k.kind = T "sign" := of_decide_eq_true hc
    have nk : ¬ k.kind = T "key" := by rw [hc']; exact nSK
    k_extra "w"
    refine w_ite (fun hd => ?_) (fun hd => ?_)
    · have e1 : noteS ms k e = some (ms ++ [k.text]) := if_pos ⟨hc', hd⟩
      k_extra "w"
      exact h' _ _ e1 (by k_extra "st!")
    · have e1 : ¬ (k.kind = T "sign" ∧ (closeOf k.text).isSome = true) := fun z => by rw [z.2] at hd; cases hd
      k_extra "w"
      refine w_ite (fun _ => ?_) (fun z => absurd hc' (of_decide_eq_false z))
      k_extra "w"
      refine w_ite (fun hf => ?_) (fun hf => ?_)
      · have e2 : k.kind = T "sign" ∧ k.text ∈ [T ")", T "]", T "}"] := ⟨hc', of_decide_eq_true hf⟩
        rcases List.eq_nil_or_concat ms with em | ⟨m0, k0, em⟩
        · subst em
          have e3 : noteS [] k e = none := by unfold noteS; rw [if_neg e1, if_pos e2, if_pos rfl]
          k_extra "w"
          refine w_ite (fun _ => ?_) (fun z => by simp at z)
          k_extra "w"
          exact (err.body hi rfl).raise (by assumption) ⟨_, by k_extra "ext"⟩ ⟨e3, rfl⟩
        · rw [List.concat_eq_append] at em
          subst em
          k_extra "w"
          refine w_ite (fun z => by simp at z) (fun _ => ?_)
          k_extra "w"
          refine get_BR (by assumption) (by assumption) ?_
          rintro v s8 hv S8
          rcases hv with ⟨hv, rfl⟩ | ⟨c1, u1, hv, rfl⟩
          · have e3 : noteS (m0 ++ [k0]) k e = none := by unfold noteS; rw [if_neg e1, if_pos e2, if_neg (by simp), if_neg (by simp [hv])]
            k_extra "w"
            exact (err.body hi rfl).raise (by assumption) ⟨_, by k_extra "ext"⟩ ⟨e3, rfl⟩
          · k_extra "w"
            refine w_ite (fun hg => ?_) (fun hg => ?_)
            · have hg' : ¬ c1 = k.text := nd_t hg
              have e3 : noteS (m0 ++ [k0]) k e = none := by unfold noteS; rw [if_neg e1, if_pos e2, if_neg (by simp), if_neg (by simp [hv, hg'])]
              k_extra "w"
              exact (err.body hi rfl).raise (by assumption) ⟨_, by k_extra "ext"⟩ ⟨e3, rfl⟩
            · have hg' : c1 = k.text := nd_f hg
              have e3 : noteS (m0 ++ [k0]) k e = some m0 := by unfold noteS; rw [if_neg e1, if_pos e2, if_neg (by simp), if_pos (by simp [hv, hg'])]; simp
              k_extra "w"
              exact h' _ _ e3 (by k_extra "st!")
      · have e2 : ¬ (k.kind = T "sign" ∧ k.text ∈ [T ")", T "]", T "}"]) := fun z => of_decide_eq_false hf z.2
        have e3 : noteS ms k e = some ms := by unfold noteS; rw [if_neg e1, if_neg e2, if_neg (fun z => nk z.1), if_neg (fun z => nk z.1)]
        k_extra "w"
        refine w_ite (fun z => absurd (of_decide_eq_true z) nk) (fun _ => ?_)
        k_extra "w"
        refine w_ite (fun z => absurd (of_decide_eq_true z) nk) (fun _ => ?_)
        k_extra "w"
        exact h' _ _ e3 (by k_extra "st!")
  · have hc' : ¬ k.kind = T "sign" := of_decide_eq_false hc
    have e1 : ¬ (k.kind = T "sign" ∧ (closeOf k.text).isSome = true) := fun z => hc' z.1
    have e2 : ¬ (k.kind = T "sign" ∧ k.text ∈ [T ")", T "]", T "}"]) := fun z => hc' z.1
    k_extra "w"
    refine w_ite (fun z => absurd (of_decide_eq_true z) hc') (fun _ => ?_)
    k_extra "w"
    refine w_ite (fun hd => ?_) (fun hd => ?_)
    · have hd' : k.kind = T "key" := of_decide_eq_true hd
      have eE : ¬ T "end" ∈ OPENERSL := by decide +kernel
      k_extra "w"
      refine w_ite (fun hf => ?_) (fun hf => ?_)
      · have e4 : k.kind = T "key" ∧ k.text ∈ OPENERSL := ⟨hd', of_decide_eq_true hf⟩
        have e3 : noteS ms k e = if k.text ∈ [T "for", T "if"] ∧ countsL ms = false ∧ e = true then some ms else some (ms ++ [T "block"]) := by unfold noteS; rw [if_neg e1, if_neg e2, if_pos e4]
        k_extra "w"
        refine w_ite (fun hg => ?_) (fun hg => ?_)
        · have hg' : k.text ∈ [T "for", T "if"] := of_decide_eq_true hg
          k_extra "w"
          refine w_ite (fun hm => ?_) (fun hm => ?_)
          · have hm' : countsL ms = false := by simpa using hm
            k_extra "w"
            refine' sc_last' (by assumption) (by assumption) (by k_extra "mem") (by k_extra "mem") hL ?_
            intro _ _
            k_extra "w"
            refine' ends_c (by assumption) (by assumption) (hL.mono fun p hp => ?_) ?r rfl ?_
            rotate_left
            case r => k_extra "room"
            rotate_left
            · exact List.mem_cons_of_mem _ (List.mem_cons_of_mem _ (List.mem_cons_of_mem _ (List.mem_cons_of_mem _ hp)))
            intro _ _
            k_extra "w"
            refine w_ite (fun hn => ?_) (fun hn => ?_)
            · rw [if_neg (fun z => by rw [z.2.2] at hn; cases hn)] at e3
              k_extra "w"
              exact h' _ _ e3 (by k_extra "st!")
            · rw [if_pos ⟨hg', hm', by simpa using hn⟩] at e3
              k_extra "w"
              exact h' _ _ e3 (by k_extra "st!")
          · have hm' : ¬ countsL ms = false := by simpa using hm
            rw [if_neg (fun z => hm' z.2.1)] at e3
            k_extra "w"
            refine w_ite (fun _ => ?_) (fun z => by rw [hm] at z; cases z)
            k_extra "w"
            exact h' _ _ e3 (by k_extra "st!")
        · have hg' : ¬ k.text ∈ [T "for", T "if"] := of_decide_eq_false hg
          rw [if_neg (fun z => hg' z.1)] at e3
          k_extra "w"
          refine w_ite (fun _ => ?_) (fun z => by rw [hg] at z; cases z)
          k_extra "w"
          exact h' _ _ e3 (by k_extra "st!")
      · have e4 : ¬ (k.kind = T "key" ∧ k.text ∈ OPENERSL) := fun z => of_decide_eq_false hf z.2
        k_extra "w"
        refine w_ite (fun _ => ?_) (fun z => absurd hd' (of_decide_eq_false z))
        k_extra "w"
        refine w_ite (fun hg => ?_) (fun hg => ?_)
        · have e5 : k.kind = T "key" ∧ k.text = T "end" := ⟨hd', of_decide_eq_true hg⟩
          have e3 : noteS ms k e = if ms.getLast? = some (T "block") then some ms.dropLast else none := by unfold noteS; rw [if_neg e1, if_neg e2, if_neg e4, if_pos e5]
          rcases List.eq_nil_or_concat ms with em | ⟨m0, k0, em⟩
          · subst em
            rw [if_neg (by simp)] at e3
            k_extra "w"
            refine w_ite (fun _ => ?_) (fun z => by simp at z)
            k_extra "w"
            exact (err.body hi rfl).raise (by assumption) ⟨_, by k_extra "ext"⟩ ⟨e3, rfl⟩
          · rw [List.concat_eq_append] at em
            subst em
            k_extra "w"
            refine w_ite (fun z => by simp at z) (fun _ => ?_)
            k_extra "w"
            refine w_ite (fun hm => ?_) (fun hm => ?_)
            · have hm' : ¬ k0 = T "block" := nd_t hm
              rw [if_neg (by simp [hm'])] at e3
              k_extra "w"
              exact (err.body hi rfl).raise (by assumption) ⟨_, by k_extra "ext"⟩ ⟨e3, rfl⟩
            · have hm' : k0 = T "block" := nd_f hm
              rw [if_pos (by simp [hm'])] at e3
              k_extra "w"
              exact h' m0 _ (by rw [e3]; simp) (by k_extra "st!")
        · have e5 : ¬ (k.kind = T "key" ∧ k.text = T "end") := fun z => of_decide_eq_false hg z.2
          have e3 : noteS ms k e = some ms := by unfold noteS; rw [if_neg e1, if_neg e2, if_neg e4, if_neg e5]
          k_extra "w"
          exact h' _ _ e3 (by k_extra "st!")
    · have hd' : ¬ k.kind = T "key" := of_decide_eq_false hd
      have e3 : noteS ms k e = some ms := by unfold noteS; rw [if_neg e1, if_neg e2, if_neg (fun z => hd' z.1), if_neg (fun z => hd' z.1)]
      k_extra "w"
      refine w_ite (fun z => absurd (of_decide_eq_true z) hd') (fun _ => ?_)
      k_extra "w"
      exact h' _ _ e3 (by k_extra "st!")
end
noncomputable def baseAt (a : List Nat) : Nat := if a = T "x" then 16 else if a = T "o" then 8 else if a = T "b" then 2 else 10
noncomputable def baL : List (Str × Tok × Value) := [("x", 424, .int 16 425), ("o", 426, .int 8 427), ("b", 428, .int 2 429)]
theorem ba_at (a : List Nat) (u : Tok) : ∃ t, (tabAt baL (tx a)).getD (.int 10 u) = .int (baseAt a) t := by
  unfold tabAt baL baseAt
  simp only [List.find?_cons, tx_eq, List.find?_nil]
  by_cases h1 : a = T "x"
  · subst h1; exact ⟨425, by rw [if_pos rfl]; rfl⟩
  · rw [decide_eq_false h1, if_neg h1]
    by_cases h2 : a = T "o"
    · subst h2; exact ⟨427, by rw [if_pos rfl]; rfl⟩
    · rw [decide_eq_false h2, if_neg h2]
      by_cases h3 : a = T "b"
      · subst h3; exact ⟨429, by rw [if_pos rfl]; rfl⟩
      · rw [decide_eq_false h3, if_neg h3]; exact ⟨u, rfl⟩
section
variable {prog : Program} {w : World} {A : Around} {E : Value → Shared → Prop} {b : Bs} {s : Shared} {l : Led} {a : List Nat} {t u : Tok}
theorem ba_ho (X : Wd (KK w) b) (S : St b s l) : s.heap.get? 93 = some ⟨.type "dict", none, .dict (tabOf w.params baL) 3, #[]⟩ := X.inS S 93 _ rfl
theorem m_BA {pl : Sem Bool} {Q : Value → List Value → Shared → Prop} (X : Wd (KK w) b) (S : St b s l) (h : Q (.builtin "dict.get") [.ref 93] s) : wpAny (model prog w) A (getMethod (.ref 93) "get" pl) (uncur Q) E s := meth_tabOf (ba_ho X S) h
theorem get_BA {Q : Value → Shared → Prop} (X : Wd (KK w) b) (S : St b s l) (h : ∀ t s', St b s' l → Q (.int (baseAt a) t) s') :
    wpAny (model prog w) A (call (.builtin "dict.get") [.ref 93, .str (tx a) t, .int 10 u]) Q E s := by
  refine get2_tabOf (ba_ho X S) (by decide) ?_
  obtain ⟨v, hv⟩ := ba_at a u
  rw [hv]; exact h _ _ S
/-- HEX_DIGITS[:base] -/
theorem r_slice_to {value : Expr} {up : Option Expr} {p : Pos} {x : Str} {i : Int} {n : Nat} {ui : Tok} {Q : Value → Shared → Prop} (S : St b s l) (hi : i = (n : Int)) (hsz : x.cps.toList.length ≤ 1048576)
    (h : ∀ u s', St b s' l → Q (.str (tx (x.cps.toList.take n)) u) s') :
    wpAny (model prog w) A (subscriptTail value (.Slice none up none p) (.str x t) (.ref s.heap.objs.size)) Q E { s with heap := s.heap.push { cls := .type "slice", data := .fields #[.none, .int i ui, .none] } } := by
  subst hi
  have e : x = tx x.cps.toList := rfl
  have hz : x.length ≤ sizeLine := by rw [e, tx_len, sizeLine_eq]; omega
  refine tail_of_ItemOn (SBG.sliceItem_ns st_push S (fun s' t' F => ?_) hz) (by with_unfolding_all rfl) ltg_str
  have := slice_ns x.cps.toList n
  rw [← e] at this
  rw [this]
  exact h t' s' F
end
/-- what holds behind the first statement, told once -/
theorem execs_cut {M : Model} {A : Around} {E : Value → Shared → Prop} {s : Shared} {env : Env} {a : Stmt} {rest : List Stmt} {Q : Flow → Shared → Prop} (P : Shared → Prop)
    (h1 : ∀ R, NxtQ P R → wpAny M A (exec a env) R E s) (h2 : ∀ s, P s → wpAny M A (execs rest env) Q E s) : wpAny M A (execs (a :: rest) env) Q E s :=
  r_seq fun R hR => h1 R ⟨fun s h => hR.next s (h2 s h.2)⟩
section
variable {prog : Program} {w : World} {A : Around} {E : Value → Shared → Prop} {b : Bs} {s : Shared} {l : Led} {i j : Int} {t u : Tok} {Q : Value → Shared → Prop}
theorem r_mul (S : St b s l) (hm : IntMulOk i j) (h : ∀ t s', St b s' l → Q (.int (i * j) t) s') : wpAny (model prog w) A (binaryOp .Mult (.int i t) (.int j u)) Q E s := mul_int (h _ _ S) hm
end
theorem words_i6_bases : True := by
 (k_with "op.i6_bases0" => first
  | (focus ((with_reducible refine' get_BA ?_ ?_ ?_); (rotate_right 3); (· with_reducible assumption); (· with_reducible assumption); (intro _ _ _)))
  | fail "none")
 (k_with "x1.i6_bases1" => first
  | (focus ((with_reducible refine' m_BA ?_ ?_ ?_); (rotate_right 3); (· with_reducible assumption); (· with_reducible assumption)))
  | fail "none")
 (k_with "sl.i6_bases2" => first
  | (focus ((with_reducible refine' r_slice_to ?_ ?_ ?_ ?_); (rotate_right 4); (· with_reducible assumption); (· rfl); (· decide +kernel); (intro _ _ _)))
  | fail "none")
 (k_with "op.i6_bases3" => first
  | (focus ((with_reducible refine' r_mul ?_ ?_ ?_); (rotate_right 3); (· with_reducible assumption); (· mul_fits); (intro _ _ _)))
  | with_reducible refine r_in_any ?_
  | (focus ((with_reducible refine' r_index ?_ ?_ ?_); (rotate_right 3); (· with_reducible assumption); (· assumption); (intro _ _ _)))
  | fail "none")
 trivial
local macro_rules
  | `(tactic| k_extra "op") => `(tactic| k_extra "op.i6_bases0")
  | `(tactic| k_extra "x1") => `(tactic| k_extra "x1.i6_bases1")
  | `(tactic| k_extra "sl") => `(tactic| k_extra "sl.i6_bases2")
local macro_rules
  | `(tactic| k_extra "op") => `(tactic| k_extra "op.i6_bases3")
noncomputable def baseOf (r : List Nat) : Nat := if r.take 1 = T "0" then baseAt ((r.drop 1).take 1) else 10
noncomputable def figIdx (base : Nat) (a : List Nat) : Option Nat := (occ (tx ((T "0123456789abcdef").take base)) (Txt.lower (tx a))).head?
/-- the figures: how many signs, the number -/
noncomputable def digS (base : Nat) : Nat → Nat → List Nat → Nat × Nat
  | j, v, [] => (j, v)
  | j, v, a :: r => match figIdx base [a] with
    | some i => digS base (j + 1) (v * base + i) r
    | none => if [a] = T "_" ∧ 0 < j then digS base (j + 1) v r else (j, v)
noncomputable def numSkip (r : List Nat) : Nat := if baseOf r = 10 then 0 else 2
noncomputable def numS (r : List Nat) : Except Nat (Nat × Nat) :=
  if (digS (baseOf r) 0 0 (r.drop (numSkip r))).1 = 0 then .error (numSkip r)
  else if (r.drop (numSkip r + (digS (baseOf r) 0 0 (r.drop (numSkip r))).1)).take 1 = T "." ∧ ¬ ((r.drop (numSkip r + (digS (baseOf r) 0 0 (r.drop (numSkip r))).1)).drop 1).take 1 = T "" ∧
      isIn (((r.drop (numSkip r + (digS (baseOf r) 0 0 (r.drop (numSkip r))).1)).drop 1).take 1) (T "0123456789") = true then .error (numSkip r + (digS (baseOf r) 0 0 (r.drop (numSkip r))).1)
  else .ok (numSkip r + (digS (baseOf r) 0 0 (r.drop (numSkip r))).1, (digS (baseOf r) 0 0 (r.drop (numSkip r))).2)
theorem step_plain {c : Sc} (h : ¬ c.r.take 1 = [10]) : c.step = { c with at_ := c.at_ + 1 } := if_neg h
theorem go_two {c : Sc} (h1 : ¬ c.r.take 1 = [10]) (h2 : ¬ (c.r.drop 1).take 1 = [10]) : c.go 2 = { c with at_ := c.at_ + 2 } := by
  show c.step.step = _
  have e : c.step.r = c.r.drop 1 := go_r c 1
  rw [step_plain (c := c.step) (by rw [e]; exact h2), step_plain h1]
theorem base_two {r : List Nat} (h : ¬ baseOf r = 10) : ¬ r.take 1 = [10] ∧ ¬ (r.drop 1).take 1 = [10] := by
  unfold baseOf at h
  split at h
  · rename_i h1
    refine ⟨by rw [h1]; decide +kernel, fun z => h ?_⟩
    rw [z]; decide +kernel
  · exact absurd rfl h
theorem dig_le (base : Nat) : ∀ (r : List Nat) (j v : Nat), j ≤ (digS base j v r).1
  | [], j, v => Nat.le_refl _
  | a :: r, j, v => by
    unfold digS
    split
    · exact Nat.le_trans (Nat.le_succ j) (dig_le base r _ _)
    · split
      · exact Nat.le_trans (Nat.le_succ j) (dig_le base r _ _)
      · exact Nat.le_refl _
theorem base_ok (r : List Nat) : baseOf r = 2 ∨ baseOf r = 8 ∨ baseOf r = 10 ∨ baseOf r = 16 := by
  unfold baseOf baseAt
  repeat' split
  all_goals simp
theorem fig_us (r : List Nat) : figIdx (baseOf r) (T "_") = none := by
  rcases base_ok r with h | h | h | h <;> rw [h] <;> decide +kernel
inductive NcB (b : Bs) (l' : Led) (L x dx : Addr) (c : Sc) (base k0 : Nat) (s : Shared) : Prop
  | mk (m : Str → Option Value) (u : Tok)
    (h1 : m "self" = some (.ref x) ∧ m "base" = some (.int (base : Nat) u))
    (h2 : St b s ((L, fr m) :: (dx, scD (c.go k0)) :: l'))
inductive NcF (b : Bs) (l' : Led) (L x dx : Addr) (c : Sc) (base k0 : Nat) (s : Shared) : Prop
  | mk (m : Str → Option Value) (u1 u3 : Tok)
    (h1 : m "self" = some (.ref x) ∧ m "base" = some (.int (base : Nat) u1) ∧ m "figures" = some (.str (tx ((T "0123456789abcdef").take base)) u3))
    (h2 : St b s ((L, fr m) :: (dx, scD (c.go k0)) :: l'))
inductive NcG (b : Bs) (l' : Led) (L x dx : Addr) (c : Sc) (base k0 : Nat) (s : Shared) : Prop
  | mk (m : Str → Option Value) (u1 u2 u3 u4 : Tok)
    (h1 : m "self" = some (.ref x) ∧ m "base" = some (.int (base : Nat) u1) ∧ m "figures" = some (.str (tx ((T "0123456789abcdef").take base)) u3) ∧ m "begun" = some (.int (c.go k0).at_ u2) ∧ m "found" = some (.int 0 u4))
    (h2 : St b s ((L, fr m) :: (dx, scD (c.go k0)) :: l'))
inductive NcE (b : Bs) (l' : Led) (L x dx : Addr) (c : Sc) (base k0 : Nat) (s : Shared) : Prop
  | mk (m : Str → Option Value) (u1 u2 : Tok)
    (h1 : m "self" = some (.ref x) ∧ m "begun" = some (.int (c.go k0).at_ u1) ∧ m "found" = some (.int (digS base 0 0 (c.r.drop k0)).2 u2))
    (h2 : St b s ((L, fr m) :: (dx, scD (c.go (k0 + (digS base 0 0 (c.r.drop k0)).1))) :: l'))
theorem NcE.of {b : Bs} {l' : Led} {L x dx : Addr} {c : Sc} {base k0 j v : Nat} {s : Shared} {m : Str → Option Value} {u1 u2 : Tok} (e : digS base 0 0 (c.r.drop k0) = (j, v)) (m1 : m "self" = some (.ref x)) (m2 : m "begun" = some (.int (c.go k0).at_ u1)) (m3 : m "found" = some (.int (v : Nat) u2))
    (S : St b s ((L, fr m) :: (dx, scD (c.go (k0 + j))) :: l')) : NcE b l' L x dx c base k0 s := by
  refine ⟨m, u1, u2, ⟨m1, m2, ?_⟩, ?_⟩
  · rw [e]; exact m3
  · rw [e]; exact S
inductive NumI (b : Bs) (l' : Led) (L x dx : Addr) (c : Sc) (base k0 : Nat) (n : Nat) (s : Shared) : Prop
  | mk (j v : Nat) (m : Str → Option Value) (u1 u2 u3 u4 : Tok)
    (h1 : digS base 0 0 (c.r.drop k0) = digS base j v (c.r.drop (k0 + j)) ∧ (c.r.drop (k0 + j)).length < n)
    (h2 : m "self" = some (.ref x) ∧ m "base" = some (.int (base : Nat) u1) ∧ m "figures" = some (.str (tx ((T "0123456789abcdef").take base)) u3) ∧ m "begun" = some (.int (c.go k0).at_ u2) ∧ m "found" = some (.int (v : Nat) u4))
    (h3 : St b s ((L, fr m) :: (dx, scD (c.go (k0 + j))) :: l'))
inductive NcA (b : Bs) (l' : Led) (L x dx : Addr) (c : Sc) (base : Nat) (s : Shared) : Prop
  | mk (m : Str → Option Value) (u : Tok)
    (h1 : m "self" = some (.ref x) ∧ m "base" = some (.int (base : Nat) u))
    (h2 : St b s ((L, fr m) :: (dx, scD c) :: l'))
section
variable {prog : Program} {w : World} {A : Around} {E : Value → Shared → Prop} {b : Bs} {s : Shared} {l l' : Led} {x dx : Addr} {c : Sc} {Q : Value → Shared → Prop}
theorem num_c {args : List Value} (X : Wd (KK w) b) (S : St b s l) (D : Del l dx (scD c) l') (G0 : (x, inst 289 dx) ∈ l') (hl : c.tl.length ≤ 1048576) (hi : Hi A l') (hr : Room A 8) (ha : args = [.ref x])
    (hN : (digS (baseOf c.r) 0 0 (c.r.drop (numSkip c.r))).1 ≤ 1200) (err : Lets b l' (fun sp => ∃ n, numS c.r = .error n ∧ sp = (c.go n).spot) E)
    (h : ∀ n v t s', numS c.r = .ok (n, v) → St b s' ((dx, scD (c.go n)) :: l') → Q (.int (v : Nat) t) s') : wpAny (model prog w) A (call (.ref 258) args) Q E s := by
  subst ha
  have G2 := D.mem
  have G1 := D.up G0
  have hh := hi.hh
  k_extra "enter"
  rename_i L S1
  refine execs_cut (NcA b l' L x dx c (baseOf c.r)) ?p1 ?p2
  case p1 =>
    k_extra "w"
    refine w_ite (fun hc => ?_) (fun hc => ?_)
    · have hc' : c.r.take 1 = T "0" := of_decide_eq_true hc
      have e : baseOf c.r = baseAt (sg c 1) := if_pos hc'
      k_extra "w"
      refine' ⟨rfl, _, _, ⟨?m1, ?m2⟩, ?st⟩
      case st => k_extra "st!"
      case m1 => k_extra "nm"
      case m2 => rw [e]; k_extra "nm"
    · have hc' : ¬ c.r.take 1 = T "0" := of_decide_eq_false hc
      have e : baseOf c.r = 10 := if_neg hc'
      k_extra "w"
      refine' ⟨rfl, _, _, ⟨?m1, ?m2⟩, ?st⟩
      case st => k_extra "st!"
      case m1 => k_extra "nm"
      case m2 => rw [e]; k_extra "nm"
  case p2 =>
    rintro s3 ⟨m, u, ⟨m1, m2⟩, S3⟩
    refine execs_cut (NcB b l' L x dx c (baseOf c.r) (numSkip c.r)) ?q1 ?q2
    case q1 =>
      k_extra "w"
      refine w_ite (fun hc => ?_) (fun hc => ?_)
      · have hc' : ¬ baseOf c.r = 10 := fun z => by rw [z] at hc; simp at hc
        obtain ⟨h1, h2⟩ := base_two hc'
        k_extra "w"
        refine' ⟨rfl, _, _, ⟨?m1, ?m2⟩, ?st⟩
        case st =>
          rw [show numSkip c.r = 2 from if_neg hc', go_two h1 h2]
          k_extra "st!"
        case m1 => k_extra "nm"
        case m2 => k_extra "nm"
      · have hc' : baseOf c.r = 10 := by
          refine Classical.byContradiction fun z => ?_
          have : ((baseOf c.r : Int) != 10) = true := by simp; omega
          rw [this] at hc; cases hc
        k_extra "w"
        refine' ⟨rfl, _, _, ⟨?m1, ?m2⟩, ?st⟩
        case st =>
          rw [show numSkip c.r = 0 from if_pos hc']
          k_extra "st!"
        case m1 => k_extra "nm"
        case m2 => k_extra "nm"
    case q2 =>
      rintro s4 ⟨m, u, ⟨m1, m2⟩, S4⟩
      refine execs_cut (NcF b l' L x dx c (baseOf c.r) (numSkip c.r)) ?f1 ?f2
      case f1 =>
        k_extra "w"
        refine' ⟨rfl, _, _, _, ⟨?m1, ?m2, ?m3⟩, ?st⟩
        case st => k_extra "st!"
        case m1 => k_extra "nm"
        case m2 => k_extra "nm"
        case m3 => k_extra "nm"
      case f2 =>
        rintro s5 ⟨m, u1, u3, ⟨m1, m2, m3⟩, S5⟩
        refine execs_cut (NcG b l' L x dx c (baseOf c.r) (numSkip c.r)) ?g1 ?g2
        case g1 =>
          k_extra "w"
          refine' ⟨rfl, _, _, _, _, _, ⟨?m1, ?m2, ?m3, ?m4, ?m5⟩, ?st⟩
          case st => k_extra "st!"
          case m1 => k_extra "nm"
          case m2 => k_extra "nm"
          case m3 => k_extra "nm"
          case m4 => k_extra "nm"
          case m5 => k_extra "nm"
        case g2 =>
          rintro s6 ⟨m, u1, u2, u3, u4, ⟨m1, m2, m3, m4, m5⟩, S6⟩
          generalize hk0 : numSkip c.r = k0 at *
          generalize hb0 : baseOf c.r = base at *
          have hb16 : base ≤ 16 := by rcases base_ok c.r with z | z | z | z <;> rw [hb0] at z <;> omega
          refine execs_cut (NcE b l' L x dx c base k0) ?e1 ?e2
          case e1 =>
            intro R0 hR0
            refine' r_while (NumI b l' L x dx c base k0) ?turn (c.r.length + 1) ?base
            case base => exact ⟨0, 0, m, u1, u2, u3, u4, ⟨rfl, by simp only [List.length_drop]; omega⟩, ⟨m1, m2, m3, m4, m5⟩, by k_extra "st!"⟩
            case turn =>
              rintro n s7 R Z hR ⟨j, v, m, u1, u2, u3, u4, ⟨h1, h2⟩, ⟨m1, m2, m3, m4, m5⟩, S7⟩
              have hlk : (c.go (k0 + j)).tl.length ≤ 1048576 := by rw [go_tl]; exact hl
              cases n with
              | zero => exact absurd h2 (Nat.not_lt_zero _)
              | succ n =>
                k_extra "w"
                refine w_ite (fun hc => ?_) (fun hc => ?_)
                · have hc' : ¬ (c.go (k0 + j)).r.take 1 = T "" := nd_t hc
                  rw [go_r, show T "" = [] from lit_nil] at hc'
                  obtain ⟨a, r', hr'⟩ : ∃ a r', c.r.drop (k0 + j) = a :: r' := by
                    cases hq : c.r.drop (k0 + j) with
                    | nil => rw [hq] at hc'; exact absurd rfl hc'
                    | cons a r => exact ⟨a, r, rfl⟩
                  have hsg : sg (c.go (k0 + j)) 0 = [a] := by rw [go_sg]; show (c.r.drop (k0 + j)).take 1 = [a]; rw [hr']; rfl
                  have hdr : c.r.drop (k0 + (j + 1)) = r' := by rw [← Nat.add_assoc, ← List.drop_drop, hr']; rfl
                  have hlen : (c.r.drop (k0 + (j + 1))).length < n := by rw [hdr]; rw [hr'] at h2; simp at h2; omega
                  rw [hr'] at h1
                  k_extra "w"
                  refine w_ite (fun hd => ?_) (fun hd => ?_)
                  · obtain ⟨i, rest, ho⟩ : ∃ i rest, occ (tx (List.take base (T "0123456789abcdef"))) (Txt.lower (tx (sg (c.go (k0 + j)) 0))) = i :: rest := by
                      cases hq : occ (tx (List.take base (T "0123456789abcdef"))) (Txt.lower (tx (sg (c.go (k0 + j)) 0))) with
                      | nil => rw [hq] at hd; cases hd
                      | cons i r => exact ⟨i, r, rfl⟩
                    have hfi : figIdx base [a] = some i := by unfold figIdx; rw [← hsg, ho]; rfl
                    have h3 : digS base j v (a :: r') = digS base (j + 1) (v * base + i) r' := by rw [digS, hfi]
                    k_extra "w"
                    refine w_ite (fun _ => ?_) (fun z => ?_)
                    rotate_left
                    · have hu : [a] = T "_" := hsg ▸ (nd_f z : sg (c.go (k0 + j)) 0 = T "_")
                      have hf := fig_us c.r
                      rw [hb0, ← hu, hfi] at hf
                      cases hf
                    k_extra "w"
                    have hj : j + 1 ≤ 1200 := Nat.le_trans (dig_le base r' (j + 1) (v * base + i)) (by rw [← h3, ← h1]; exact hN)
                    refine w_ite (fun z => ?_) (fun _ => ?_)
                    · exfalso
                      have := of_decide_eq_true z
                      rw [step_at, go_at, go_at] at this
                      omega
                    k_extra "w"
                    refine' ⟨n, Nat.lt_succ_self _, j + 1, v * base + i, _, _, _, _, _, ⟨?y1, hlen⟩, ⟨?m1, ?m2, ?m3, ?m4, ?m5⟩, ?st⟩
                    case st =>
                      change St b _ ((L, fr _) :: (dx, scD (c.go (k0 + j)).step) :: _)
                      k_extra "st!"
                    case m1 => k_extra "nm"
                    case m2 => k_extra "nm"
                    case m3 => k_extra "nm"
                    case m4 => k_extra "nm"
                    case m5 => refine Eq.trans ?_ (congrArg (fun z : Int => some (Value.int z _)) (by push_cast; rfl : (v : Int) * base + i = ((v * base + i : Nat) : Int))); k_extra "nm"
                    case y1 => rw [h1, h3, hdr]
                  · have hfi : figIdx base [a] = none := by
                      unfold figIdx; rw [← hsg]
                      cases hq : occ (tx (List.take base (T "0123456789abcdef"))) (Txt.lower (tx (sg (c.go (k0 + j)) 0))) with
                      | nil => rfl
                      | cons i r => rw [hq] at hd; cases hd
                    have h3 : digS base j v (a :: r') = if [a] = T "_" ∧ 0 < j then digS base (j + 1) v r' else (j, v) := by rw [digS, hfi]
                    k_extra "w"
                    refine w_ite (fun he => ?_) (fun he => ?_)
                    · have he' : [a] = T "_" := hsg ▸ (of_decide_eq_true he : sg (c.go (k0 + j)) 0 = T "_")
                      k_extra "w"
                      refine w_ite (fun hf => ?_) (fun hf => ?_)
                      · have hj0 : 0 < j := by
                          have := of_decide_eq_true hf
                          rw [go_at, go_at] at this; omega
                        rw [if_pos ⟨he', hj0⟩] at h3
                        k_extra "w"
                        refine w_ite (fun z => absurd (of_decide_eq_true he) (nd_t z)) (fun _ => ?_)
                        k_extra "w"
                        have hj : j + 1 ≤ 1200 := Nat.le_trans (dig_le base r' (j + 1) v) (by rw [← h3, ← h1]; exact hN)
                        refine w_ite (fun z => ?_) (fun _ => ?_)
                        · exfalso
                          have := of_decide_eq_true z
                          rw [step_at, go_at, go_at] at this
                          omega
                        k_extra "w"
                        refine' ⟨n, Nat.lt_succ_self _, j + 1, v, _, _, _, _, _, ⟨?y1, hlen⟩, ⟨?m1, ?m2, ?m3, ?m4, ?m5⟩, ?st⟩
                        case st =>
                          change St b _ ((L, fr _) :: (dx, scD (c.go (k0 + j)).step) :: _)
                          k_extra "st!"
                        case m1 => k_extra "nm"
                        case m2 => k_extra "nm"
                        case m3 => k_extra "nm"
                        case m4 => k_extra "nm"
                        case m5 => k_extra "nm"
                        case y1 => rw [h1, h3, hdr]
                      · have hj0 : ¬ 0 < j := by
                          have := of_decide_eq_false hf
                          rw [go_at, go_at] at this; omega
                        rw [if_neg (fun z => hj0 z.2)] at h3
                        k_extra "w"
                        exact ⟨rfl, .of (h1.trans h3) m1 m4 m5 (by k_extra "st!")⟩
                    · have he' : ¬ [a] = T "_" := hsg ▸ (of_decide_eq_false he : ¬ sg (c.go (k0 + j)) 0 = T "_")
                      rw [if_neg (fun z => he' z.1)] at h3
                      k_extra "w"
                      exact ⟨rfl, .of (h1.trans h3) m1 m4 m5 (by k_extra "st!")⟩
                · have hc' : (c.go (k0 + j)).r.take 1 = T "" := nd_f hc
                  rw [go_r, show T "" = [] from lit_nil] at hc'
                  have hnil : c.r.drop (k0 + j) = [] := by
                    cases hq : c.r.drop (k0 + j) with
                    | nil => rfl
                    | cons a r => rw [hq] at hc'; cases hc'
                  rw [hnil] at h1
                  k_extra "w"
                  exact ⟨rfl, .of h1 m1 m4 m5 (by k_extra "st!")⟩
          case e2 =>
            rintro s7 ⟨m, u1, u2, ⟨m1, m2, m3⟩, S7⟩
            generalize hD : digS base 0 0 (c.r.drop k0) = Dg at *
            have hlk : (c.go (k0 + Dg.1)).tl.length ≤ 1048576 := by rw [go_tl]; exact hl
            have e0 : numS c.r = if Dg.1 = 0 then .error k0 else if (c.r.drop (k0 + Dg.1)).take 1 = T "." ∧ ¬ ((c.r.drop (k0 + Dg.1)).drop 1).take 1 = T "" ∧ isIn (((c.r.drop (k0 + Dg.1)).drop 1).take 1) (T "0123456789") = true then .error (k0 + Dg.1) else .ok (k0 + Dg.1, Dg.2) := by
              unfold numS; rw [hb0, hk0, hD]
            k_extra "w"
            refine w_ite (fun hc => ?_) (fun hc => ?_)
            · have hc' : Dg.1 = 0 := by
                have := eq_of_beq hc
                rw [go_at, go_at] at this; omega
              rw [if_pos hc'] at e0
              k_extra "w"
              exact (err.body hi rfl).raise (by assumption) ⟨_, by k_extra "ext"⟩ ⟨k0, e0, by rw [hc']; rfl⟩
            · have hc' : ¬ Dg.1 = 0 := fun z => by rw [z] at hc; simp at hc
              rw [if_neg hc'] at e0
              k_extra "w"
              refine w_ite (fun hd => ?_) (fun hd => ?_)
              · have hd' : (c.go (k0 + Dg.1)).r.take 1 = T "." := of_decide_eq_true hd
                rw [go_r] at hd'
                k_extra "w"
                refine w_ite (fun he => ?_) (fun he => ?_)
                · have he' : ¬ ((c.go (k0 + Dg.1)).r.drop 1).take 1 = T "" := nd_t he
                  rw [go_r] at he'
                  k_extra "w"
                  refine w_ite (fun hf => ?_) (fun hf => ?_)
                  · have hf' : isIn (((c.go (k0 + Dg.1)).r.drop 1).take 1) (T "0123456789") = true := (found_isIn _ sg_len).symm.trans hf
                    rw [go_r] at hf'
                    rw [if_pos ⟨hd', he', hf'⟩] at e0
                    k_extra "w"
                    exact (err.body hi rfl).raise (by assumption) ⟨_, by k_extra "ext"⟩ ⟨_, e0, rfl⟩
                  · have hf' : ¬ isIn (((c.go (k0 + Dg.1)).r.drop 1).take 1) (T "0123456789") = true := by rw [show isIn (((c.go (k0 + Dg.1)).r.drop 1).take 1) (T "0123456789") = false from (found_isIn _ sg_len).symm.trans hf]; decide
                    rw [go_r] at hf'
                    rw [if_neg (fun z => hf' z.2.2)] at e0
                    k_extra "w"
                    exact h _ _ _ _ e0 (by k_extra "st!")
                · have he' : ((c.go (k0 + Dg.1)).r.drop 1).take 1 = T "" := nd_f he
                  rw [go_r] at he'
                  rw [if_neg (fun z => z.2.1 he')] at e0
                  k_extra "w"
                  exact h _ _ _ _ e0 (by k_extra "st!")
              · have hd' : ¬ (c.go (k0 + Dg.1)).r.take 1 = T "." := of_decide_eq_false hd
                rw [go_r] at hd'
                rw [if_neg (fun z => hd' z.1)] at e0
                k_extra "w"
                exact h _ _ _ _ e0 (by k_extra "st!")
end
noncomputable def escAt (a : List Nat) : Option Nat := if a = T "n" then some 10 else if a = T "t" then some 9 else if a = T "r" then some 13 else if a = T "0" then some 0 else if a = T "a" then some 7 else if a = T "b" then some 8
  else if a = T "e" then some 27 else if a = T "\\" then some 92 else if a = T "\"" then some 34 else if a = T "'" then some 39 else if a = T "$" then some 36 else none
noncomputable def esL : List (Str × Tok × Value) := [("n", 434, .int 10 435), ("t", 436, .int 9 437), ("r", 438, .int 13 439), ("0", 440, .int 0 441), ("a", 442, .int 7 443), ("b", 444, .int 8 445), ("e", 446, .int 27 447), ("\\", 448, .int 92 449), ("\"", 450, .int 34 451), ("'", 452, .int 39 453), ("$", 454, .int 36 455)]
theorem es_at (a : List Nat) : (escAt a = none ∧ tabAt esL (tx a) = none) ∨ ∃ (c : Nat) (t : Tok), escAt a = some c ∧ c < 128 ∧ tabAt esL (tx a) = some (.int c t) := by
  unfold tabAt esL escAt
  simp only [List.find?_cons, tx_eq, List.find?_nil]
  by_cases h10 : a = T "n"
  · subst h10; exact .inr ⟨10, 435, if_pos rfl, by decide, rfl⟩
  rw [decide_eq_false h10, if_neg h10]
  by_cases h9 : a = T "t"
  · subst h9; exact .inr ⟨9, 437, if_pos rfl, by decide, rfl⟩
  rw [decide_eq_false h9, if_neg h9]
  by_cases h13 : a = T "r"
  · subst h13; exact .inr ⟨13, 439, if_pos rfl, by decide, rfl⟩
  rw [decide_eq_false h13, if_neg h13]
  by_cases h0 : a = T "0"
  · subst h0; exact .inr ⟨0, 441, if_pos rfl, by decide, rfl⟩
  rw [decide_eq_false h0, if_neg h0]
  by_cases h7 : a = T "a"
  · subst h7; exact .inr ⟨7, 443, if_pos rfl, by decide, rfl⟩
  rw [decide_eq_false h7, if_neg h7]
  by_cases h8 : a = T "b"
  · subst h8; exact .inr ⟨8, 445, if_pos rfl, by decide, rfl⟩
  rw [decide_eq_false h8, if_neg h8]
  by_cases h27 : a = T "e"
  · subst h27; exact .inr ⟨27, 447, if_pos rfl, by decide, rfl⟩
  rw [decide_eq_false h27, if_neg h27]
  by_cases h92 : a = T "\\"
  · subst h92; exact .inr ⟨92, 449, if_pos rfl, by decide, rfl⟩
  rw [decide_eq_false h92, if_neg h92]
  by_cases h34 : a = T "\""
  · subst h34; exact .inr ⟨34, 451, if_pos rfl, by decide, rfl⟩
  rw [decide_eq_false h34, if_neg h34]
  by_cases h39 : a = T "'"
  · subst h39; exact .inr ⟨39, 453, if_pos rfl, by decide, rfl⟩
  rw [decide_eq_false h39, if_neg h39]
  by_cases h36 : a = T "$"
  · subst h36; exact .inr ⟨36, 455, if_pos rfl, by decide, rfl⟩
  rw [decide_eq_false h36, if_neg h36]
  exact .inl ⟨rfl, rfl⟩
section
variable {prog : Program} {w : World} {A : Around} {E : Value → Shared → Prop} {b : Bs} {s : Shared} {l : Led} {a : List Nat} {t : Tok} {Q : Value → Shared → Prop}
theorem es_ho (X : Wd (KK w) b) (S : St b s l) : s.heap.get? 94 = some ⟨.type "dict", none, .dict (tabOf w.params esL) 11, #[]⟩ := X.inS S 94 _ rfl
end
theorem noI_bytes_add : typeLookup (.type "bytes") (dunderI "add") = pure none := by rw [typeLookup_type, builtinLookup_eq_fast]; kernel_rfl
section
variable {prog : Program} {w : World} {A : Around} {E : Value → Shared → Prop} {b : Bs} {s : Shared} {l : Led} {c d : List UInt8} {t u : Tok} {Q : Value → Shared → Prop}
theorem St.toks {k : Nat} (S : St b s l) : St b { s with toks := k } l := S
theorem r_iadd_bytes (S : St b s l) (hz : c.length + d.length ≤ 16777216) (h : ∀ t s', St b s' l → Q (.bytes (c ++ d).toArray t) s') : wpAny (model prog w) A (inplaceOp .Add (.bytes c.toArray t) (.bytes d.toArray u)) Q E s := by
  refine iconcat_gives (typeIs_bytes s _ t) (typeIs_bytes s _ u) noI_bytes_add KBy.noFill_bytes_add KBy.seq_bytes_add FB.slot_bytes_add FB.entry_bytes_add (FB.args_bytes_add_2 _ _) (KBy.gives_bytes_add (KBy.tooLong_not (by simpa using hz))) ?_
  by_cases hb : c = []
  · subst hb
    exact h u s S
  · rw [if_neg (by simpa using hb)]
    by_cases hc : d = []
    · subst hc
      rw [if_pos (by rfl)]
      have := h t s S
      rw [List.append_nil] at this
      exact this
    · rw [if_neg (by simpa using hc)]
      refine ⟨by rw [Array.size_append, sizeLine_eq]; simpa using hz, ?_⟩
      have := h s.toks { s with toks := s.toks + 1 } S
      rw [List.append_toArray]
      exact this
theorem r_bytes1 {a : Addr} {i : Int} {k : Nat} {ti : Tok} (S : St b s l) (G : (a, lst [.int i ti]) ∈ l) (hi : i = (k : Int)) (hk : k < 256) (hh : A.handled = none) (h : ∀ t s', St b s' l → Q (.bytes [k.toUInt8].toArray t) s') : wpAny (model prog w) A (call (.type "bytes") [.ref a]) Q E s := by
  subst hi
  refine call_bytes_ints (ns := [(k : Int)]) (lst_at S G) (.cons _ _ .nil) (by simp; omega) (by rw [sizeLine_eq]; simp) hh fun h' t' k' kp => ?_
  have e : byteArr [(k : Int)] = [k.toUInt8].toArray := by simp [byteArr]
  rw [e]
  exact h _ _ (S.keeps kp)
end
section
variable {prog : Program} {w : World} {A : Around} {E : Value → Shared → Prop} {s : Shared}
theorem nextOf_tup_item {it t : Addr} {i : Nat} {items} {x : Value} {Q : Value → Shared → Prop} (hit : s.heap.IsTupleIter it t i) (ht : s.heap.IsTuple t items) (hx : items[i]? = some x)
    (hQ : ∀ h', h'.IsTupleIter it t (i + 1) → Heap.SameBut it s.heap h' → Q x { s with heap := h' }) : wpAny (model prog w) A (Builtin.SmallTypes.nextOf (.ref it)) Q E s := by
  obtain ⟨o, ho, hc, hd⟩ := id hit
  obtain ⟨ol, hol, _, nl, hdl⟩ := ht
  unfold Builtin.SmallTypes.nextOf
  refine wpAny_bind (wpAny_callSpecial?_slot (name := Str.ofString "__next__") hit.typeIs F.slot_tuple_iterator_next (wpAny_call_entry F.slot_tuple_iterator_next hit.typeIs F.entry_tuple_iterator_next ?_ (F.args_tuple_iterator_next_1 _)))
  show wpAny _ _ (field (.ref it) 0 >>= _) _ _ s
  refine wpAny_bind (wpAny_field ho hd (x := .ref t) rfl ?_)
  show wpAny _ _ (if (Value.ref t == Value.none) = true then _ else _) _ _ s
  rw [if_neg (show ¬ ((Value.ref t == Value.none) = true) from Bool.false_ne_true)]
  show wpAny _ _ (field (.ref it) 1 >>= _) _ _ s
  refine wpAny_bind (wpAny_field ho hd (x := .int i 0) rfl ?_)
  show wpAny _ _ (seqItems? (.ref t) >>= _) _ _ s
  refine wpAny_bind (wpAny_seqItems hol hdl ?_)
  simp only [Int.toNat_natCast, hx]
  refine wpAny_bind (wpAny_setField ho hd (by simp) (wpAny_pure ⟨x, rfl, wpAny_pure (hQ _ ?_ (Heap.SameBut.update ..))⟩))
  exact ⟨_, Heap.get?_update_self _ ho (Obj.isFreed_of_fields (Obj.data_mapFields hd _)), (Obj.cls_mapFields ..).trans hc, by rw [Obj.data_mapFields hd]; simp [rawInt]⟩
theorem nextOf_tup_end {it t : Addr} {i : Nat} {items} {Q : Value → Shared → Prop} (hh : A.handled = none) (hit : s.heap.IsTupleIter it t i) (ht : s.heap.IsTuple t items) (hx : items[i]? = none)
    (hE : ∀ h' e, Heap.ExtBut it s.heap h' → (∃ o, h'.get? e = some o ∧ o.cls = .type "StopIteration") → E (.ref e) { s with heap := h' }) : wpAny (model prog w) A (Builtin.SmallTypes.nextOf (.ref it)) Q E s := by
  obtain ⟨o, ho, hc, hd⟩ := id hit
  obtain ⟨ol, hol, _, nl, hdl⟩ := ht
  unfold Builtin.SmallTypes.nextOf
  refine wpAny_bind (wpAny_callSpecial?_slot (name := Str.ofString "__next__") hit.typeIs F.slot_tuple_iterator_next (wpAny_call_entry F.slot_tuple_iterator_next hit.typeIs F.entry_tuple_iterator_next ?_ (F.args_tuple_iterator_next_1 _)))
  show wpAny _ _ (field (.ref it) 0 >>= _) _ _ s
  refine wpAny_bind (wpAny_field ho hd (x := .ref t) rfl ?_)
  show wpAny _ _ (if (Value.ref t == Value.none) = true then _ else _) _ _ s
  rw [if_neg (show ¬ ((Value.ref t == Value.none) = true) from Bool.false_ne_true)]
  show wpAny _ _ (field (.ref it) 1 >>= _) _ _ s
  refine wpAny_bind (wpAny_field ho hd (x := .int i 0) rfl ?_)
  show wpAny _ _ (seqItems? (.ref t) >>= _) _ _ s
  refine wpAny_bind (wpAny_seqItems hol hdl ?_)
  simp only [Int.toNat_natCast, hx]
  refine wpAny_bind (wpAny_rule (wpAny_bind (wpAny_setField ho hd (by simp) ?_)))
  show wpAny _ _ (newExc (.type "StopIteration") [] >>= _) _ _ _
  refine wpAny_bind ?_
  simp only [newExc, newTuple]
  refine wpAny_bind (wpAny_newObj_type ?_ (by size_fits))
  refine wpAny_bind (m := firstArgMember _ _) (wpAny_of_eq (a := Value.none) (by first | rfl | (simp only [firstArgMember]; rfl)) ?_)
  refine wpAny_newObj_type ?_ (by size_fits)
  simp only [raiseNew]
  refine wpAny_bind (wpAny_handled ?_)
  first | rw [show A.in1.handled = none from hh] | rw [hh]
  refine wpAny_bind (wpAny_pure (wpAny_throw ?_))
  exact hE _ _ (((Heap.SameBut.update ..).extBut.push _).push _) ⟨_, Heap.get?_push_size _ rfl, rfl⟩
end
theorem draws_tup {prog : Program} {w : World} {A : Around} (hh : A.handled = none) (it t : Addr) (hne : t ≠ it) (items : Array Value) :
    Draws prog w A it [it, t] items.size (fun i v => items[i]? = some v) (fun i h => h.IsTupleIter it t i ∧ h.IsTuple t items) where
  live := fun _ _ st => let ⟨o, ho, _⟩ := st.1; ⟨o, ho⟩
  frame := fun _ _ _ st hk => ⟨let ⟨o, ho, r⟩ := st.1; ⟨o, hk it (by simp) o ho, r⟩, let ⟨o, ho, r⟩ := st.2; ⟨o, hk t (by simp) o ho, r⟩⟩
  item := fun i s Q E hi st hQ => by
    refine nextOf_tup_item st.1 st.2 (x := items[i]) (by simp [hi]) fun h' hit' hs' => ?_
    exact hQ _ h' s.toks (by simp [hi]) ⟨hit', st.2.extBut hs'.extBut hne⟩ hs'
  done := fun s Q E st hE => nextOf_tup_end hh st.1 st.2 (by simp) hE
set_option maxHeartbeats 8000000 in
theorem enum_newT (l : Addr) (items : Array Value) :
    Meets (Builtin.«enumerate.__new__» ⟨[.type "enumerate", .ref l], []⟩) (fun _ R s => s.heap.IsTuple l items ∧
      R (.ok (.ret (.ref (s.heap.push { cls := .type "tuple_iterator", data := .fields #[.ref l, .int 0 0] }).objs.size)))
        { s with heap := (s.heap.push { cls := .type "tuple_iterator", data := .fields #[.ref l, .int 0 0] }).push { cls := .type "enumerate", data := .fields #[.none, .bool false, .ref s.heap.objs.size, rawInt 0, .none, .none] } }) :=
  .of_wp fun prog w A R s h => by
    obtain ⟨hp, g, d, tk, os⟩ := s; obtain ⟨hL, h⟩ := h
    have hsub := sub_enumerate
    replace hL : Heap.IsTuple (Shared.heap ⟨hp, g, d, tk, os⟩) l items := hL
    obtain ⟨⟨c, dct, dt, sl⟩, ho, hc, n, hd⟩ := id hL
    replace hc : c = .type "tuple" := hc
    replace hd : dt = .seq items n := hd
    subst hc hd
    wp_walk using AutoSeq1.wpAny_loadPart' ho
    refine wpAny_stack_any fun st => wpAny_pure ?_
    split
    · rename_i c _ _ _ _ _
      cases (c == Value.type "enumerate")
      · wp_walk using AutoSeq1.wpAny_loadPart' ho, wpAny_pyIter_tuple hL
        exact ⟨_, rfl, h⟩
      · wp_walk using AutoSeq1.wpAny_loadPart' ho, wpAny_pyIter_tuple hL
        exact ⟨_, rfl, h⟩
    · wp_walk using AutoSeq1.wpAny_loadPart' ho, wpAny_pyIter_tuple hL
      exact ⟨_, rfl, h⟩
noncomputable def en (it : Addr) (i : Nat) : Cell := fun o => ∃ old, o = { cls := .type "enumerate", dict := none, data := .fields #[.none, .bool false, .ref it, rawInt i, .none, old], slots := #[] }
section
variable {prog : Program} {w : World} {A : Around} {E : Value → Shared → Prop} {b : Bs} {s : Shared} {l : Led} {t : Addr} {vs : List Value} {env : Env}
theorem call_enumT {Q : Value → Shared → Prop} (S : St b s l) (ht : s.heap.IsTuple t vs.toArray)
    (h : ∀ e it s', St b s' ((e, en it 0) :: (it, tit t 0) :: l) → Q (.ref e) s') : wpAny (model prog w) A (call (.type "enumerate") [.ref t]) Q E s := by
  refine callType_new F.called_enumerate (by decide) (F.typeCall_enumerate_1 _) (F.newCall_enumerate_1 _) (fun obj => F.args_object_init_2 obj _) F.entry_enumerate_new (enum_newT t vs.toArray) ⟨ht, ?_⟩
  have S1 := S.push (o := { cls := .type "tuple_iterator", data := .fields #[.ref t, .int 0 0] }) (P := tit t 0) rfl ⟨rfl, rfl⟩
  have S2 := S1.push (o := { cls := .type "enumerate", data := .fields #[.none, .bool false, .ref s.heap.objs.size, rawInt 0, .none, .none] }) (P := en s.heap.objs.size 0) rfl ⟨.none, rfl⟩
  obtain ⟨o, ho, old, rfl⟩ := S2.head
  exact ⟨⟨_, ho, rfl⟩, h _ _ _ S2⟩
theorem r_iter_enum {e it : Addr} {i : Nat} {Q : Value → Shared → Prop} (S : St b s ((e, en it i) :: l)) (h : Q (.ref e) s) : wpAny (model prog w) A (pyIter (.ref e)) Q E s := by
  obtain ⟨o, ho, old, rfl⟩ := S.head
  exact wpAny_pyIter_enum ho h
/-- a for over enumerate(a tuple), left before its end -/
theorem r_forEnum {elts : List Expr} {k : Nat} {pt : Pos} {body : List Stmt} {e it : Addr} {Q : Flow → Shared → Prop} (hh : A.handled = none) (htb : b.B.IsTuple t vs.toArray) (Inv : Nat → Prop) (P : Nat → Led → Prop)
    (turn : ∀ i s l T tk v R Z, LpQ (fun s => Inv (i + 1) ∧ ∃ l', P (i + 1) l' ∧ St b s ((e, en it (i + 1)) :: (it, tit t (i + 1)) :: l')) (Q .next) Q R Z → Inv i → P i l → vs[i]? = some v → St b s ((T, tup [.int i tk, v]) :: (e, en it (i + 1)) :: (it, tit t (i + 1)) :: l) →
      wpAny (model prog w) A (assign (.Tuple elts k pt) env (.ref T)) (fun _ s₂ => wpAny (model prog w) A (execs body env) R (EN (model prog w) A env E) s₂) (EN (model prog w) A env E) s)
    (short : ∀ i, Inv i → i < vs.length) (h0 : Inv 0) (hp0 : P 0 l) (S : St b s ((e, en it 0) :: (it, tit t 0) :: l)) :
    codeAny (model prog w) A (.forLoop (.Tuple elts k pt) (.ref e) body [] env) (fun r s' => match r with | .ok f => Q f s' | .error e => cameBackBy (model prog w) A env E e s') s := by
  refine codeAny_forLoop_any (fun n s => ∃ i l, n + i = vs.length ∧ Inv i ∧ P i l ∧ St b s ((e, en it i) :: (it, tit t i) :: l)) ?_ vs.length ⟨0, l, rfl, h0, hp0, S⟩
  rintro n s' ⟨i, l1, hn, hI, hP, S1⟩
  have hlt := short i hI
  have hf := S1.fresh
  have hne : t ≠ it := fun q => by
    have := S1.fresh (it, tit t i) (.tail _ (.head _))
    obtain ⟨o, ho, _⟩ := htb
    rw [← q] at this
    dsimp only at this
    rw [ho] at this; cases this
  have hte : t ≠ e := fun q => by
    have := S1.fresh (e, en it i) (.head _)
    obtain ⟨o, ho, _⟩ := htb
    rw [← q] at this
    dsimp only at this
    rw [ho] at this; cases this
  have hei : e ≠ it := fun q => by
    have := (List.nodup_cons.mp S1.nodup).1
    exact this (by rw [q]; simp)
  have D : Draws prog w A.in1 it [it, t] vs.toArray.size (fun i v => vs.toArray[i]? = some v) (fun i h => h.IsTupleIter it t i ∧ h.IsTuple t vs.toArray) := draws_tup (by exact hh) it t hne vs.toArray
  have W := WalksT.enumerateD D e hei (by simp [hei, Ne.symm hte]) (by simp)
  have htS : s'.heap.IsTuple t vs.toArray := let ⟨o, ho, r⟩ := htb; ⟨o, S1.stays _ _ ho, r⟩
  refine W.item i _ _ _ (by simpa using hlt) ⟨let ⟨o, ho, old, q⟩ := S1.head; ⟨old, ho.trans (congrArg some q)⟩, tit_at (S1.perm (List.Perm.swap _ _ _)), htS⟩ fun T vals h₁ tk hPt hT htup hMid hk => ?_
  obtain ⟨tk1, x, hx, rfl⟩ := hPt
  refine W.go elts k pt i T _ _ _ hMid fun h₂ hst hk2 => ?_
  obtain ⟨⟨old, he⟩, hit, ht2⟩ := hst
  have nin : ∀ q ∈ l1, q.1 ∉ ([e, it] : List Addr) := fun q hq hm => by
    have n1 := List.nodup_cons.mp S1.nodup
    have n2 := List.nodup_cons.mp n1.2
    rcases List.mem_cons.mp hm with z | hm
    · exact n1.1 (List.mem_map.mpr ⟨q, .tail _ hq, z⟩)
    · exact n2.1 (List.mem_map.mpr ⟨q, hq, List.mem_singleton.mp hm⟩)
  have bin : ∀ c o, b.B.get? c = some o → c ∉ ([e, it] : List Addr) := fun c o hc hm => by
    rcases List.mem_cons.mp hm with z | hm
    · have := S1.fresh (e, en it i) (.head _); dsimp only at this; rw [← z, hc] at this; cases this
    · have := S1.fresh (it, tit t i) (.tail _ (.head _)); dsimp only at this; rw [← List.mem_singleton.mp hm, hc] at this; cases this
  have S2 : StR b h₂ s'.gens s'.drawn s'.os ((e, en it (i + 1)) :: (it, tit t (i + 1)) :: l1) := by
    refine ⟨S1.gens, S1.drawn, S1.os, fun c o hc => hk2 c o (bin c o hc) (hk c o (bin c o hc) (S1.stays c o hc)), fun q hq => ?_, fun q hq => ?_, S1.nodup⟩
    · rcases List.mem_cons.mp hq with rfl | hq
      · exact ⟨_, he, old, rfl⟩
      · rcases List.mem_cons.mp hq with rfl | hq
        · obtain ⟨o, ho, h1, h2⟩ := hit; exact ⟨o, ho, h1, h2⟩
        · obtain ⟨o, ho, hp⟩ := S1.at_ q (.tail _ (.tail _ hq))
          exact ⟨o, hk2 _ _ (nin q hq) (hk _ _ (nin q hq) ho), hp⟩
    · rcases List.mem_cons.mp hq with rfl | hq
      · exact S1.fresh (e, en it i) (.head _)
      · rcases List.mem_cons.mp hq with rfl | hq
        · exact S1.fresh (it, tit t i) (.tail _ (.head _))
        · exact S1.fresh q (.tail _ (.tail _ hq))
  have hT2 : h₂.IsTuple T #[.int i tk1, x] := let ⟨o, ho, r⟩ := htup; ⟨o, hk2 T o (W.apart i T h₁ hMid) ho, r⟩
  have S3 : StR b h₂ s'.gens s'.drawn s'.os ((T, tup [.int i tk1, x]) :: (e, en it (i + 1)) :: (it, tit t (i + 1)) :: l1) := by
    refine ⟨S2.gens, S2.drawn, S2.os, S2.stays, fun q hq => ?_, fun q hq => ?_, List.nodup_cons.mpr ⟨fun hm => ?_, S2.nodup⟩⟩
    · rcases List.mem_cons.mp hq with rfl | hq
      · obtain ⟨o, ho, h1, n, h2⟩ := hT2; exact ⟨o, ho, h1, n, h2⟩
      · exact S2.at_ q hq
    · rcases List.mem_cons.mp hq with rfl | hq
      · cases hb : b.B.get? T with
        | none => rfl
        | some o => exact absurd (Heap.lt_size (S1.stays _ _ hb)) (Nat.not_lt.mpr hT)
      · exact S2.fresh q hq
    · obtain ⟨q, hq, z⟩ := List.mem_map.mp hm
      have : T < s'.heap.objs.size := by
        rcases List.mem_cons.mp hq with rfl | hq
        · obtain ⟨o, ho, _⟩ := S1.at_ (e, en it i) (.head _); exact (show _ = T from z) ▸ Heap.lt_size ho
        · rcases List.mem_cons.mp hq with rfl | hq
          · obtain ⟨o, ho, _⟩ := S1.at_ (it, tit t i) (.tail _ (.head _)); exact (show _ = T from z) ▸ Heap.lt_size ho
          · obtain ⟨o, ho, _⟩ := S1.at_ q (.tail _ (.tail _ hq)); exact (show _ = T from z) ▸ Heap.lt_size ho
      omega
  refine wpAny_mono (turn i _ l1 T tk1 x _ _ .mk' hI hP (by simpa using hx) S3) (fun _ s₂ h₂ => wpAny_mono h₂ (fun f s₃ h₃ => ?_) fun _ _ e => e) fun _ _ e => e
  cases f <;> first | exact h₃ | (obtain ⟨a, l', c, d⟩ := h₃; exact ⟨n - 1, by omega, i + 1, l', by omega, a, c, d⟩)
end
/-- a dict of names, written out -/
noncomputable def dk (prog : Program) (w : World) (kvs : List (Str × Value)) : Cell := fun o => o.IsDictOf (strKind prog w) kvs
section
variable {prog : Program} {w : World} {A : Around} {E : Value → Shared → Prop} {b : Bs} {s : Shared} {l l' : Led} {d t : Addr} {kvs : List (Str × Value)} {x : Str} {tk u : Tok} {env : Env} {vs : List Value}
theorem dk_at (S : St b s l) (G : (d, dk prog w kvs) ∈ l) : s.heap.DictOf (strKind prog w) d kvs := Heap.dictOf_iff.mpr (S.get G)
theorem dk_new (S : St b s l) : St b { s with heap := s.heap.push { cls := .type "dict", data := .dict #[] } } ((s.heap.objs.size, dk prog w []) :: l) := by
  obtain ⟨o, ho, hp⟩ := Heap.dictOf_iff.mp (Heap.DictOf.new (knd := strKind prog w) s.heap)
  exact S.new (fun _ _ e => Heap.get?_push_of_some _ e) (Nat.le_refl _) ho hp
theorem r_Dict {keys : List (Option Expr)} {values : List Expr} {pos : Pos} {Q : Value → Shared → Prop} (S : St b s l) (hB : ∃ a o, sysModules ≤ a ∧ b.B.get? a = some o)
    (hall : keys.all (·.isSome) = true) (hl : keys.length = values.length) (h0 : keys ≠ []) (hlen : keys.length ≤ 15)
    (h : ∀ d s', (d == sysModules) = false → St b s' ((d, dk prog w []) :: l) → wpAny (model prog w) A (evalPairs (pairTrees keys values env pos)) (fun vs s₁ => ∃ l', allStrKeys vs = true ∧ ((strPairs vs).map (·.1)).Nodup ∧ St b s₁ ((d, dk prog w []) :: l') ∧
      ∀ s2, St b s2 ((d, dk prog w (strPairs vs)) :: l') → Q (.ref d) s2) E s') : wpAny (model prog w) A (eval (.Dict keys values pos) env) Q E s := by
  refine wpAny_Dict_walk (knd := strKind prog w) hall hl h0 hlen ?_
  have S0 : St b _ _ := dk_new (prog := prog) (w := w) S
  have hne : (s.heap.objs.size == sysModules) = false := by
    obtain ⟨a, o, hle, ho⟩ := hB
    have := Heap.lt_size (S.stays _ _ ho)
    rw [beq_eq_false_iff_ne]; exact Nat.ne_of_gt (Nat.lt_of_le_of_lt hle this)
  refine wpAny_mono (h _ _ hne S0) (fun vs s₁ h₁ => ?_) fun _ _ e => e
  obtain ⟨l', h1, h2, S1, hq⟩ := h₁
  exact display_done_str h1 h2 (dk_at S1 (.head _)) fun h' hd hs => hq _ (by
    obtain ⟨o, ho, hp⟩ := Heap.dictOf_iff.mp hd
    exact S1.set hs ho hp)
theorem dk_in {Q : Value → Shared → Prop} (S : St b s l) (G : (d, dk prog w kvs) ∈ l) (lo : (d == sysModules) = false) (h : ∀ s', St b s' l → Q (.bool (valueAt kvs x).isSome) s') :
    wpAny (model prog w) A (compareOp .In (.str x tk) (.ref d)) Q E s := wpAny_in_of (strKind_is _ _ _ _) lo (dk_at S G).mapOf (h _ S)
theorem dk_item {v : Value} {Q : Value → Shared → Prop} (S : St b s l) (G : (d, dk prog w kvs) ∈ l) (hv : valueAt kvs x = some v) (h : ∀ s', St b s' l → Q v s') :
    wpAny (model prog w) A (getItem (.ref d) (.str x tk)) Q E s := wpAny_getItem_of (strKind_is _ _ _ _) (dk_at S G).mapOf hv (h _ S)
theorem dk_set {v : Value} {Q : Unit → Shared → Prop} (S : St b s l) (D : Del l d (dk prog w kvs) l') (hz : kvs.length ≤ 1000) (h : ∀ s', St b s' ((d, dk prog w (stored kvs x v)) :: l') → Q () s') :
    wpAny (model prog w) A (setItem (.ref d) (.str x tk) v) Q E s :=
  wpAny_setItem_pairs (strKind_is _ _ _ _) (dk_at S D.mem) (fun h' hd hs => h _ (by
    obtain ⟨o, ho, hp⟩ := Heap.dictOf_iff.mp hd
    exact (S.del D).set hs ho hp)) (by rw [sizeLine_eq]; omega)
theorem dk_meth {pl : Sem Bool} {Q : Value → List Value → Shared → Prop} (S : St b s l) (G : (d, dk prog w kvs) ∈ l) (h : Q (.builtin "dict.get") [.ref d] s) :
    wpAny (model prog w) A (getMethod (.ref d) "get" pl) (uncur Q) E s := by
  have h2 : uncur Q (.builtin "dict.get", [.ref d]) s := h
  have hm := (dk_at S G).mapOf
  exact getMethod_builtin hm.typeIs PySem.F.plainAttrs_dict PySem.F.slot_dict_get PySem.F.type_dict_get hm.noDict h2
theorem dk_get2 {dv : Value} {Q : Value → Shared → Prop} (S : St b s l) (G : (d, dk prog w kvs) ∈ l) (lo : (d == sysModules) = false) (h : ∀ s', St b s' l → Q ((valueAt kvs x).getD dv) s') :
    wpAny (model prog w) A (call (.builtin "dict.get") [.ref d, .str x tk, dv]) Q E s := by
  have hm := (dk_at S G).mapOf
  exact call_meetsIn PySem.F.slot_dict_get hm.typeIs PySem.F.entry_dict_get (PySem.F.args_dict_get_3 _ _ _) (meets_dict_get_default (strKind prog w) d (strKind_is _ _ _ _) lo dv) ⟨_, hm, h _ S⟩
theorem dk_tail {value slice : Expr} {v : Value} {Q : Value → Shared → Prop} (S : St b s l) (G : (d, dk prog w kvs) ∈ l) (hv : valueAt kvs x = some v) (h : ∀ s', St b s' l → Q v s')
    (hs : subscripted slice false (.ref d) (.str x tk) = operate [.ref d, .str x tk] (getItem (.ref d) (.str x tk))) : wpAny (model prog w) A (subscriptTail value slice (.ref d) (.str x tk)) Q E s :=
  tail_any (dk_at S G).typeIs slot_dict_getitem.lookup (dk_item S G hv h) hs
/-- an item of a tuple -/
theorem seqIndex_nat {n len : Nat} (h : n < len) : seqIndex? (n : Int) len = some n := by
  unfold seqIndex?
  have h0 : ¬ ((n : Int) < 0) := by omega
  simp only [if_neg h0]
  rw [if_pos (by simp; omega)]; simp
theorem r_tupItem {value slice : Expr} {k : Int} {j : Nat} {v : Value} {Q : Value → Shared → Prop} (S : St b s l) (G : (t, tup vs) ∈ l) (hk : k = (j : Int)) (hv : vs[j]? = some v) (hj : j < 1000) (h : Q v s)
    (hs : subscripted slice false (.ref t) (.int k u) = operate [.ref t, .int k u] (getItem (.ref t) (.int k u))) : wpAny (model prog w) A (subscriptTail value slice (.ref t) (.int k u)) Q E s := by
  subst hk
  have hlt : j < vs.length := (List.getElem?_eq_some_iff.mp hv).1
  exact item_tupleT (tup_at S G) (by omega) (by omega) (seqIndex_nat hlt) hv h hs
theorem r_baseTup {value slice : Expr} {k : Int} {j : Nat} {v : Value} {Q : Value → Shared → Prop} (ht : s.heap.IsTuple t vs.toArray) (hk : k = (j : Int)) (hv : vs[j]? = some v) (hj : j < 1000) (h : Q v s)
    (hs : subscripted slice false (.ref t) (.int k u) = operate [.ref t, .int k u] (getItem (.ref t) (.int k u))) : wpAny (model prog w) A (subscriptTail value slice (.ref t) (.int k u)) Q E s := by
  subst hk
  have hlt : j < vs.length := (List.getElem?_eq_some_iff.mp hv).1
  exact item_tupleT ht (by omega) (by omega) (seqIndex_nat hlt) hv h hs
section
variable {i j : Int} {t u : Tok} {Q : Value → Shared → Prop}
theorem r_mod (S : St b s l) (hj : j ≠ 0) (h : ∀ t s', St b s' l → Q (.int (i.fmod j) t) s') : wpAny (model prog w) A (binaryOp .Mod (.int i t) (.int j u)) Q E s := PyProof.Rows.mod_int' hj (h _ _ S)
theorem r_div (S : St b s l) (hj : j ≠ 0) (hj2 : j.natAbs < 1073741824) (h : ∀ t s', St b s' l → Q (.int (i.fdiv j) t) s') : wpAny (model prog w) A (binaryOp .FloorDiv (.int i t) (.int j u)) Q E s :=
  PyProof.Rows.floordiv_int hj (h _ _ S) (.inl (PyProof.noPylong_small hj2))
theorem r_idiv (S : St b s l) (hj : j ≠ 0) (hj2 : j.natAbs < 1073741824) (h : ∀ t s', St b s' l → Q (.int (i.fdiv j) t) s') : wpAny (model prog w) A (inplaceOp .FloorDiv (.int i t) (.int j u)) Q E s :=
  PyProof.Rows.ifloordiv_int hj (h _ _ S) (.inl (PyProof.noPylong_small hj2))
end
theorem r_ord {a : Nat} {l₁ : List Nat} {Q : Value → Shared → Prop} (S : St b s l) (ha : l₁ = [a]) (h : ∀ t s', St b s' l → Q (.int (a : Nat) t) s') : wpAny (model prog w) A (call (.builtin "ord") [.str (tx l₁) tk]) Q E s := by
  subst ha
  exact PySem.P.ord_of_char (h _ _ S)
theorem r_cbytes {y : List UInt8} {k : Nat} {pos : Pos} {Q : Value → Shared → Prop} (S : St b s l) (h : ∀ t s', St b s' l → Q (.bytes y.toArray t) s') : wpAny (model prog w) A (eval (.Constant (.bytes y) k pos) env) Q E s := PySem.W.Constant_bytes (h _ _ S)
theorem r_ne_bytes {x y : List UInt8} {Q : Value → Shared → Prop} (h : Q (.bool (!decide (x = y))) s) : wpAny (model prog w) A (compareOp .NotEq (.bytes x.toArray tk) (.bytes y.toArray u)) Q E s := by
  refine PySem.W.ne_bytes ?_
  rw [bne, show (x.toArray.toList == y.toArray.toList) = decide (x = y) by rw [Bool.eq_iff_iff]; simp]; exact h
theorem r_tuple {Q : Value → Shared → Prop} (S : St b s l) (G : (d, lst vs) ∈ l) (hz : vs.length ≤ 1048576) (h : ∀ t s', St b s' ((t, tup vs) :: l) → Q (.ref t) s') : wpAny (model prog w) A (call (.type "tuple") [.ref d]) Q E s :=
  call_tuple_list (lst_at S G) (fun h' hk => h _ _ ((S.keeps hk).push (o := { cls := .type "tuple", data := .seq vs.toArray }) (P := tup vs) rfl ⟨rfl, 0, rfl⟩)) (by rw [List.size_toArray, sizeLine_eq]; omega)
end
theorem base_big {w : World} {b : Bs} (X : Wd (KK w) b) : ∃ a o, sysModules ≤ a ∧ b.B.get? a = some o := ⟨289, _, by decide, X.inK 289 _ rfl⟩

theorem r_cmp2 {M : Model} {A : Around} {E : Value → Shared → Prop} {s : Shared} {env : Env} {l r₁ r₂ : Expr} {op₁ op₂ : CmpOp} {pos : Pos} {Q : Value → Shared → Prop}
    (h : wpAny M A (eval l env) (fun a s₁ => wpAny M A (eval r₁ env) (fun c s₂ => wpAny M A (compareOp op₁ a c) (fun d s₃ => wpAny M A (truthy d) (fun t s₄ =>
      if t then wpAny M A (eval r₂ env) (fun e s₅ => wpAny M A (compareOp op₂ c e) Q E s₅) E s₄ else Q d s₄) E s₃) E s₂) E s₁) E s)
    (hm : lastMarks [op₁, op₂] [r₁, r₂] = false) : wpAny M A (eval (.Compare l [op₁, op₂] [r₁, r₂] pos) env) Q E s :=
  PyProof.Rows.Compare_chain (wpAny_mono h (fun a s₁ h₁ => PyProof.Rows.chain_link (wpAny_mono h₁ (fun c s₂ h₂ => wpAny_mono h₂ (fun d s₃ h₃ => wpAny_mono h₃ (fun t s₄ h₄ => by
    cases t with
    | false => exact h₄
    | true => exact PyProof.Rows.chain_last h₄) fun _ _ e => e) fun _ _ e => e) fun _ _ e => e)) fun _ _ e => e) hm

theorem execs_cutR {M : Model} {A : Around} {E : Value → Shared → Prop} {s : Shared} {env : Env} {a : Stmt} {rest : List Stmt} {Q : Flow → Shared → Prop} (P : Shared → Prop)
    (h1 : ∀ R, CutQ P Q R → wpAny M A (exec a env) R E s) (h2 : ∀ s, P s → wpAny M A (execs rest env) Q E s) : wpAny M A (execs (a :: rest) env) Q E s :=
  r_seq fun R hR => h1 R ⟨fun s h => hR.next s (h2 s h), hR.ret, hR.brk, hR.cont⟩
theorem words_j0_misc : True := by
 (k_with "sl.j0_misc0" => first
  | (focus ((with_reducible refine' r_tupItem ?_ ?_ ?_ ?_ ?_ ?_ ?_); (rotate_right 7); (· with_reducible assumption); (rotate_left 5); (· with_unfolding_all rfl); (rotate_right 5); (· k_extra "mem"); (· rfl); (· rfl); (· decide)))
  | (focus ((with_reducible refine' dk_tail ?_ ?_ ?_ ?_ ?_); (rotate_right 5); (· with_reducible assumption); (rotate_left 3); (· with_unfolding_all rfl); (rotate_right 3); (· k_extra "mem"); (· rfl); (intro _ _)))
  | fail "none")
 (k_with "op.j0_misc1" => first
  | with_reducible refine PyProof.Rows.le_int ?_
  | with_reducible refine PyProof.Rows.ge_int ?_
  | (focus ((with_reducible refine' r_mod ?_ ?_ ?_); (rotate_right 3); (· with_reducible assumption); (· decide); (intro _ _ _)))
  | (focus ((with_reducible refine' r_div ?_ ?_ ?_ ?_); (rotate_right 4); (· with_reducible assumption); (· decide); (· decide); (intro _ _ _)))
  | (focus ((with_reducible refine' r_idiv ?_ ?_ ?_ ?_); (rotate_right 4); (· with_reducible assumption); (· decide); (· decide); (intro _ _ _)))
  | (focus ((with_reducible refine' r_ord ?_ ?_ ?_); (rotate_right 3); (· with_reducible assumption); (· assumption); (intro _ _ _)))
  | with_reducible refine r_ne_bytes ?_
  | with_reducible refine pairTrees_cons_walk ?_
  | with_reducible refine pairTrees_nil_walk ?_
  | (focus ((with_reducible refine' r_tuple ?_ ?_ ?_ ?_); (rotate_right 4); (· with_reducible assumption); (· k_extra "mem"); (· first | assumption | omega); (intro _ _ _)))
  | fail "none")
 (k_with "x1.j0_misc2" => first
  | (focus ((with_reducible refine' dk_meth ?_ ?_ ?_); (rotate_right 3); (· with_reducible assumption); (· k_extra "mem")))
  | fail "none")
 (k_with "ev.j0_misc3" => first
  | (focus ((with_reducible refine' r_cbytes ?_ ?_); (rotate_right 2); (· with_reducible assumption); (intro _ _ _)))
  | (focus ((with_reducible refine' r_cmp2 ?_ ?_); (rotate_right 2); (rotate_left 1); (· with_unfolding_all rfl); (rotate_right 1)))
  | (focus ((with_reducible refine' r_Dict ?_ ?_ ?_ ?_ ?_ ?_ ?_); (rotate_right 7); (· with_reducible assumption); (rotate_left 1); (· rfl); (rotate_right 1); (rotate_left 1); (· rfl); (rotate_right 1); (rotate_left 1); (· simp); (rotate_right 1); (rotate_left 1); (· decide); (rotate_right 1); (· exact base_big (by assumption)); (intro _ _ _ _)))
  | fail "none")
 (k_with "op.j0_misc4" => with_reducible refine PyProof.Rows.is_int_none ?_)
 (k_with "op.j0_misc5" => first
  | (focus ((with_reducible refine' r_iadd_bytes ?_ ?_ ?_); (rotate_right 3); (· with_reducible assumption); (· assumption); (intro _ _ _)))
  | fail "none")
 (k_with "st.j0_misc6" => first
  | (focus ((with_reducible refine' wpAny_Expr_any ?_ ?_ ?_); (rotate_right 3); (rotate_left 1); (· kernel_rfl); (rotate_right 1); (rotate_left 1); (· kernel_rfl); (rotate_right 1)))
  | fail "none")
 (k_with "sl.j0_misc7" => first
  | (focus ((with_reducible refine' r_last ?_ ?_ ?_ ?_ ?_ ?_); (rotate_right 6); (· with_reducible assumption); (rotate_left 4); (· with_unfolding_all rfl); (rotate_right 4); (· k_extra "mem"); (· rfl); (· rfl)))
  | fail "none")
 trivial
local macro_rules
  | `(tactic| k_extra "sl") => `(tactic| k_extra "sl.j0_misc0")
  | `(tactic| k_extra "op") => `(tactic| k_extra "op.j0_misc1")
  | `(tactic| k_extra "x1") => `(tactic| k_extra "x1.j0_misc2")
  | `(tactic| k_extra "ev") => `(tactic| k_extra "ev.j0_misc3")
  | `(tactic| k_extra "st") => `(tactic| k_extra "st.j0_misc6")
local macro_rules
  | `(tactic| k_extra "op") => `(tactic| k_extra "op.j0_misc4")
  | `(tactic| k_extra "sl") => `(tactic| k_extra "sl.j0_misc7")
local macro_rules
  | `(tactic| k_extra "op") => `(tactic| k_extra "op.j0_misc5")
noncomputable def rg (n : Int) : Cell := fun o => ∃ t u v, o = { cls := .type "range", dict := none, data := .fields #[.int 0 t, .int n u, .int 1 v], slots := #[] }
noncomputable def rit (n i : Nat) : Cell := fun o => o = { cls := .type "range_iterator", dict := none, data := .fields #[rawInt i, rawInt ((n : Int) - i), rawInt 1], slots := #[] }
section
variable {prog : Program} {w : World} {A : Around} {E : Value → Shared → Prop} {b : Bs} {s : Shared} {l : Led} {a it : Addr} {n : Int} {k : Nat} {t : Tok}
theorem r_range {Q : Value → Shared → Prop} (S : St b s l) (h : ∀ a s', St b s' ((a, rg n) :: l) → Q (.ref a) s') : wpAny (model prog w) A (call (.type "range") [.int n t]) Q E s :=
  call_range_1 (h _ { s with heap := s.heap.push { cls := .type "range", data := .fields #[.int 0 s.toks, .int n t, .int 1 (s.toks + 1)] }, toks := s.toks + 1 + 1 } (S.push rfl ⟨_, _, _, rfl⟩))
theorem r_iter_range {Q : Value → Shared → Prop} (S : St b s l) (G : (a, rg n) ∈ l) (hn : n = (k : Int)) (hk : k ≤ 1048576) (h : ∀ it s', St b s' ((it, rit k 0) :: l) → Q (.ref it) s') : wpAny (model prog w) A (pyIter (.ref a)) Q E s := by
  subst hn
  obtain ⟨o, ho, t, u, v, rfl⟩ := S.get G
  refine wpAny_pyIter_range ho (small_one (by decide) (by decide) (by omega) (by omega)) ?_
  refine h s.heap.objs.size _ ?_
  refine S.push rfl ?_
  unfold rit
  rw [rangeSize_one]
  by_cases hz : (0 : Int) < k
  · rw [if_pos hz]; simp
  · have : k = 0 := by omega
    subst this; simp
theorem iter_range : Iter prog w b it k (fun i v => ∃ t, v = .int i t) (rit k) (fun _ => True) where
  next A i s l Q E hi hp S h := by
    obtain ⟨o, ho, rfl⟩ := S.head
    refine wpAny_pyNext_range_item ho (by omega) fun h' hit hs => h _ _ ⟨_, rfl⟩ ?_
    exact StR.set S hs hit (by
      unfold rit
      have e1 : ((i : Int) + 1) = ((i + 1 : Nat) : Int) := rfl
      have e2 : ((k : Int) - i - 1) = (k : Int) - ((i + 1 : Nat) : Int) := by omega
      rw [e1, e2])
  stop A s l Q E hh hp S h := by
    obtain ⟨o, ho, rfl⟩ := S.head
    exact wpAny_pyNext_range_end hh ho (by omega) fun h' k => h _ (S.extBut k)
end
theorem words_j1_range : True := by
 (k_with "op.j1_range0" => first
  | (focus ((with_reducible refine' r_range ?_ ?_); (rotate_right 2); (· with_reducible assumption); (intro _ _ _)))
  | fail "none")
 trivial
local macro_rules
  | `(tactic| k_extra "op") => `(tactic| k_extra "op.j1_range0")
noncomputable def enc2 (c : Nat) : List UInt8 := if c < 128 then [c.toUInt8] else [(192 + c / 64).toUInt8, (128 + c % 64).toUInt8]
theorem q_ref {Q : Value → Shared → Prop} {a a' : Addr} {s : Shared} (h : Q (.ref a) s) (e : a = a') : Q (.ref a') s := e ▸ h
section
variable {prog : Program} {w : World} {A : Around} {E : Value → Shared → Prop} {b : Bs} {s : Shared} {l l' : Led} {k : Nat} {i : Int} {t : Tok} {Q : Value → Shared → Prop}
theorem bad_c {args : List Value} (X : Wd (KK w) b) (S : St b s l) (hr : Room A 1) (hk : i = (k : Int)) (ha : args = [.int i t])
    (h : ∀ s', St b s' l → Q (.bool (decide (55296 ≤ k ∧ k ≤ 57343))) s') : wpAny (model prog w) A (call (.ref 74) args) Q E s := by
  subst ha hk
  k_extra "enter"
  k_extra "w"
  refine w_ite (fun hc => ?_) (fun hc => ?_)
  · k_extra "w"
    refine q_bool (h _ (by k_extra "st!")) ?_
    have hc' := of_decide_eq_true hc
    rw [decide_eq_decide]; omega
  · k_extra "w"
    refine q_bool (h _ (by k_extra "st!")) ?_
    have hc' := of_decide_eq_false hc
    rw [hc, decide_eq_false (by omega)]
theorem limits_at (X : Wd (KK w) b) : ∃ t1 t2 t3 t4, b.B.IsTuple 67 [.int 128 t1, .int 2048 t2, .int 65536 t3, .int 1114112 t4].toArray := ⟨_, _, _, _, _, X.inK 67 _ rfl, rfl, _, rfl⟩
theorem size_c {args : List Value} (X : Wd (KK w) b) (S : St b s l) (hh : A.handled = none) (hr : Room A 2) (hk : i = (k : Int)) (hz : k < 2048) (ha : args = [.int i t])
    (h : ∀ t s', St b s' l → Q (.int (if k < 128 then 1 else 2) t) s') : wpAny (model prog w) A (call (.ref 81) args) Q E s := by
  subst ha hk
  obtain ⟨t1, t2, t3, t4, hT⟩ := limits_at X
  k_extra "enter"
  rename_i L S1
  k_extra "w"
  refine w_ite (fun hc => absurd (of_decide_eq_true hc) (by omega)) (fun hc => ?_)
  k_extra "w"
  refine' call_enumT (vs := [.int 128 t1, .int 2048 t2, .int 65536 t3, .int 1114112 t4]) (by assumption) ?h1 ?_
  case h1 => exact (let ⟨o, ho, r⟩ := hT; ⟨o, StR.stays (by assumption) _ _ ho, r⟩)
  intro e it s2 S2
  k_extra "w"
  refine r_iter_enum S2 ?_
  k_extra "w"
  refine r_forEnum hh hT (fun i => i = 0 ∨ (i = 1 ∧ 128 ≤ k)) (fun _ l' => ∃ m tk, l' = (L, fr m) :: l ∧ m "code" = some (.int k tk)) ?turn ?short (.inl rfl) ⟨_, t, rfl, by k_extra "nm"⟩ S2
  case short => rintro i (rfl | ⟨rfl, _⟩) <;> simp
  case turn =>
    rintro i s3 l3 T tk v R Z hR hI ⟨m, tk2, rfl, hm⟩ hv S3
    rcases hI with rfl | ⟨rfl, hI⟩
    · cases hv
      k_extra "w"
      refine w_ite (fun hc => ?_) (fun hc => ?_)
      · have hc' := of_decide_eq_true hc
        k_extra "w"
        have := h
        rw [if_pos (by omega)] at h
        exact h _ _ (by k_extra "st!")
      · have hc' := of_decide_eq_false hc
        k_extra "w"
        refine' ⟨.inr ⟨rfl, by omega⟩, _, ⟨_, _, rfl, ?nm⟩, ?st⟩
        case st => k_extra "st!"
        case nm => k_extra "nm"
    · cases hv
      k_extra "w"
      refine w_ite (fun hc => ?_) (fun hc => absurd (of_decide_eq_false hc) (by omega))
      k_extra "w"
      rw [if_neg (by omega)] at h
      exact h _ _ (by k_extra "st!")
theorem rev_l {its : List Value} {a : Addr} {i : Int} {u : Tok} {value slice : Expr} {ops : List Value} (S : St b s l) (G : (a, lst its) ∈ l) (hi : i = -1) (hz : its.length ≤ 1048576)
    (h : ∀ n s', St b s' ((n, lst its.reverse) :: l) → Q (.ref n) s') (hs : subscripted slice false (.ref a) (.ref s.heap.objs.size) = operate ops (getItem (.ref a) (.ref s.heap.objs.size))) :
    wpAny (model prog w) A (subscriptTail value slice (.ref a) (.ref s.heap.objs.size)) Q E { s with heap := s.heap.push { cls := .type "slice", data := .fields #[.none, .none, .int i u] } } := rev_at S (lst_at S G) hi hz h hs
theorem r_addl {vs ws : List Value} {a c : Addr} (S : St b s l) (G1 : (a, lst vs) ∈ l) (G2 : (c, lst ws) ∈ l) (hz : vs.length + ws.length ≤ 1048576) (h : ∀ n s', St b s' ((n, lst (vs ++ ws)) :: l) → Q (.ref n) s') :
    wpAny (model prog w) A (binaryOp .Add (.ref a) (.ref c)) Q E s := by
  obtain ⟨o1, h1, n1, rfl⟩ := S.get G1
  obtain ⟨o2, h2, n2, rfl⟩ := S.get G2
  refine PySem.P.add_list h1 h2 ?_ (by simp only [List.size_toArray]; rw [sizeLine_eq]; omega)
  rw [List.append_toArray]
  exact h _ { s with heap := s.heap.push { cls := .type "list", data := .seq (vs ++ ws).toArray } } (S.push rfl ⟨0, rfl⟩)
theorem r_bytes2 {a : Addr} {i j : Int} {k m : Nat} {ti tj : Tok} {vs : List Value} (S : St b s l) (G : (a, lst vs) ∈ l) (hv : vs = [.int i ti, .int j tj]) (hi : i = (k : Int)) (hk : k < 256) (hj : j = (m : Int)) (hm : m < 256) (hh : A.handled = none)
    (h : ∀ t s', St b s' l → Q (.bytes [k.toUInt8, m.toUInt8].toArray t) s') : wpAny (model prog w) A (call (.type "bytes") [.ref a]) Q E s := by
  subst hi hj hv
  refine call_bytes_ints (ns := [(k : Int), (m : Int)]) (lst_at S G) (.cons _ _ (.cons _ _ .nil)) (by simp; omega) (by rw [sizeLine_eq]; simp) hh fun h' t' k' kp => ?_
  have e : byteArr [(k : Int), (m : Int)] = [k.toUInt8, m.toUInt8].toArray := by simp [byteArr]
  rw [e]
  exact h _ _ (S.keeps kp)
end
section
variable {prog : Program} {w : World} {A : Around} {E : Value → Shared → Prop} {b : Bs} {s : Shared} {l l' : Led} {k : Nat} {i : Int} {t : Tok} {Q : Value → Shared → Prop}
theorem enc_c {args : List Value} (X : Wd (KK w) b) (S : St b s l) (hh : A.handled = none) (hr : Room A 3) (hk : i = (k : Int)) (hz : k < 2048) (ha : args = [.int i t])
    (h : ∀ t s', St b s' l → Q (.bytes (enc2 k).toArray t) s') : wpAny (model prog w) A (call (.ref 88) args) Q E s := by
  subst ha hk
  k_extra "enter"
  rename_i L S1
  k_extra "w"
  refine w_ite (fun hc => absurd (of_decide_eq_true hc) (by omega)) (fun hc => ?_)
  k_extra "w"
  refine' size_c (by assumption) (by assumption) hh ?r rfl hz rfl ?_
  case r => k_extra "room"
  intro _ _ _
  k_extra "w"
  refine w_ite (fun hc => ?_) (fun hc => ?_)
  · have hk : k < 128 := by
      by_cases q : k < 128
      · exact q
      · rw [if_neg q] at hc; cases hc
    k_extra "w"
    refine' r_bytes1 (k := k) (by assumption) ?g rfl (by omega) hh ?_
    rotate_left
    case g => k_extra "mem"
    intro _ _ _
    k_extra "w"
    have := h
    unfold enc2 at h
    rw [if_pos hk] at h
    exact h _ _ (by k_extra "st!")
  · have hk : ¬ k < 128 := fun q => by rw [if_pos q] at hc; cases hc
    rw [if_neg hk] at *
    k_extra "w"
    refine' r_iter_range (k := 1) (by assumption) ?g ?e (by decide) ?_
    rotate_left
    case g => k_extra "mem"
    rotate_left
    case e => decide
    intro it s5 S5
    k_extra "w"
    refine' r_forLoop iter_range hh (fun i l' => ∃ m fo vs ri t1 t2, l' = (L, fr m) :: (fo, lst vs) :: l ∧ m "size" = some (.int 2 t1) ∧ m "found" = some (.ref fo) ∧ m "rest" = some (.int ri t2) ∧ ((i = 0 ∧ vs = [] ∧ ri = k) ∨ (i = 1 ∧ (∃ t, vs = [.int (128 + (k : Int).fmod 64) t]) ∧ ri = (k : Int).fdiv 64))) ?turn ?done ⟨_, _, _, _, _, _, rfl, ?m1, ?m2, ?m3, .inl ⟨rfl, rfl, rfl⟩⟩ trivial ?st
    case st => k_extra "st!"
    case m1 => k_extra "nm"
    case m2 => k_extra "nm"
    case m3 => k_extra "nm"
    case turn =>
      rintro i s6 l6 v R Z hR hi ⟨m, fo, vs, ri, t1, t2, rfl, m1, m2, m3, hI⟩ _ ⟨tv, rfl⟩ S6
      rcases hI with ⟨rfl, rfl, rfl⟩ | ⟨rfl, _⟩
      · k_extra "w"
        refine' ⟨_, ⟨_, _, _, _, _, _, rfl, ?m1, ?m2, ?m3, ?hI⟩, trivial, ?st⟩
        rotate_left
        case st => k_extra "st!"
        case m1 => k_extra "nm"
        case m2 => k_extra "nm"
        case m3 => k_extra "nm"
        case hI => exact .inr ⟨rfl, ⟨_, rfl⟩, rfl⟩
      · omega
    case done =>
      rintro s6 l6 ⟨m, fo, vs, ri, t1, t2, rfl, m1, m2, m3, hI⟩ S6
      rcases hI with ⟨z, _⟩ | ⟨_, ⟨tv, rfl⟩, rfl⟩
      · cases z
      k_extra "w"
      refine' rev_l (by assumption) ?g rfl ?z ?_ ?s
      case g => k_extra "mem"
      case z => simp
      case s => with_unfolding_all rfl
      intro _ _ _
      k_extra "w"
      refine' r_addl (by assumption) ?g1 ?g2 ?z ?_
      case g1 => k_extra "mem"
      case g2 => k_extra "mem"
      case z => simp
      intro _ _ _
      k_extra "w"
      have f1 : (k : Int).fdiv 64 = ((k / 64 : Nat) : Int) := by rw [Int.fdiv_eq_ediv_of_nonneg _ (by decide)]; rfl
      have f2 : (k : Int).fmod 64 = ((k % 64 : Nat) : Int) := by rw [Int.fmod_eq_emod_of_nonneg _ (by decide)]; rfl
      refine' r_bytes2 (k := 192 + k / 64) (m := 128 + k % 64) (by assumption) ?g ?v ?e1 (by omega) ?e2 (by omega) hh ?_
      case g => k_extra "mem"
      case v => rfl
      case e1 => rw [f1]; rfl
      case e2 => rw [f2]; rfl
      intro _ _ _
      k_extra "w"
      unfold enc2 at h
      rw [if_neg hk] at h
      exact h _ _ (by k_extra "st!")
end
theorem words_j2_enc : True := by
 (k_with "sl.j2_enc0" => first
  | (focus ((with_reducible refine' rev_l ?_ ?_ ?_ ?_ ?_ ?_); (rotate_right 6); (· with_reducible assumption); (· k_extra "mem"); (· rfl); (· first | assumption | (simp; done) | omega); (rotate_left 1); (· with_unfolding_all rfl); (rotate_right 1); (intro _ _ _)))
  | fail "none")
 (k_with "op.j2_enc1" => first
  | (focus ((with_reducible refine' r_addl ?_ ?_ ?_ ?_ ?_); (rotate_right 5); (· with_reducible assumption); (· k_extra "mem"); (· k_extra "mem"); (· first | assumption | (simp; done) | omega); (intro _ _ _)))
  | fail "none")
 (k_with "ct.j2_enc2" => first
  | (focus ((with_reducible refine' enc_c ?_ ?_ ?_ ?_ ?_ ?_ ?_ ?_); (rotate_right 8); (· with_reducible assumption); (· with_reducible assumption); (rotate_left 4); (· rfl); (rotate_right 4); (rotate_left 2); (· rfl); (rotate_right 2); (· assumption); (rotate_left 1); (· assumption); (rotate_right 1); (· k_extra "room"); (intro _ _ _)))
  | (focus ((with_reducible refine' bad_c ?_ ?_ ?_ ?_ ?_ ?_); (rotate_right 6); (· with_reducible assumption); (· with_reducible assumption); (rotate_left 2); (· rfl); (rotate_right 2); (rotate_left 1); (· rfl); (rotate_right 1); (· k_extra "room"); (intro _ _)))
  | fail "none")
 trivial
local macro_rules
  | `(tactic| k_extra "sl") => `(tactic| k_extra "sl.j2_enc0")
  | `(tactic| k_extra "op") => `(tactic| k_extra "op.j2_enc1")
  | `(tactic| k_extra "ct") => `(tactic| k_extra "ct.j2_enc2")
inductive Res (α : Type) where
  | ok (a : α)
  | err (n : Nat)
  | un
noncomputable def hexIdx (a : List Nat) : Option Nat := (occ (Str.ofString "0123456789abcdef") (Txt.lower (tx a))).head?
noncomputable def hexS (most : Nat) : Nat → Nat → List Nat → Nat × Nat
  | j, v, [] => (j, v)
  | j, v, a :: r => if j < most then (match hexIdx [a] with | some i => hexS most (j + 1) (16 * v + i) r | none => (j, v)) else (j, v)
noncomputable def mostAt (a : List Nat) : Nat := if a = T "x" then 2 else if a = T "u" then 4 else if a = T "U" then 8 else 0
noncomputable def escTail (m : Nat) (h : Nat × Nat) : Res (Nat × List UInt8 × Option Nat) :=
  if h.1 = 0 ∨ 1114111 < h.2 ∨ (55296 ≤ h.2 ∧ h.2 ≤ 57343) then .err (2 + h.1)
  else if m = 2 then (if h.2 < 256 then .ok (2 + h.1, [h.2.toUInt8], if h.2 < 128 then some h.2 else none) else .un)
  else if h.2 < 2048 then .ok (2 + h.1, enc2 h.2, some h.2) else .un
noncomputable def escS (r : List Nat) : Res (Nat × List UInt8 × Option Nat) :=
  match escAt ((r.drop 1).take 1) with
  | some c => .ok (2, [c.toUInt8], some c)
  | none => if mostAt ((r.drop 1).take 1) = 0 then .err 1 else escTail (mostAt ((r.drop 1).take 1)) (hexS (mostAt ((r.drop 1).take 1)) 0 0 (r.drop 2))
noncomputable def oi : Option Nat → Tok → Value
  | none, _ => .none
  | some k, t => .int k t
section
variable {prog : Program} {w : World} {A : Around} {E : Value → Shared → Prop} {b : Bs} {s : Shared} {l : Led} {a : List Nat} {t u : Tok} {Q : Value → Shared → Prop}
theorem in_ES (X : Wd (KK w) b) (S : St b s l) (h : ∀ s', St b s' l → Q (.bool (escAt a).isSome) s') : wpAny (model prog w) A (compareOp .In (.str (tx a) t) (.ref 94)) Q E s := by
  refine in_tabOf (es_ho X S) (by decide) ?_
  rcases es_at a with ⟨h1, h2⟩ | ⟨c, u, h1, _, h2⟩
  · rw [h2]; have := h { s with toks := s.toks + 1 } S; rw [h1] at this; exact this
  · rw [h2]; have := h { s with toks := s.toks + 1 } S; rw [h1] at this; exact this
theorem item_ES {value slice : Expr} {c : Nat} (X : Wd (KK w) b) (S : St b s l) (hc : escAt a = some c) (h : ∀ t s', St b s' l → c < 128 → Q (.int c t) s')
    (hs : subscripted slice false (.ref 94) (.str (tx a) t) = operate [.ref 94, .str (tx a) t] (getItem (.ref 94) (.str (tx a) t))) : wpAny (model prog w) A (subscriptTail value slice (.ref 94) (.str (tx a) t)) Q E s := by
  rcases es_at a with ⟨h1, h2⟩ | ⟨c', u, h1, h3, h2⟩
  · rw [h1] at hc; cases hc
  · rw [h1] at hc; cases hc
    exact tail_any (tab_map (prog := prog) (es_ho X S)).typeIs slot_dict_getitem.lookup (item_tabOf (es_ho X S) h2 (h u _ S h3)) hs
theorem most_at (a : List Nat) (t1 t2 t3 t0 : Tok) : ∃ t, (valueAt [(Str.ofString "x", .int 2 t1), (Str.ofString "u", .int 4 t2), (Str.ofString "U", .int 8 t3)] (tx a)).getD (.int 0 t0) = .int (mostAt a) t := by
  unfold valueAt mostAt
  have e : ∀ y : Str, decide (y = tx a) = decide (a = y.cps.toList) := fun y => by rw [← tx_eq, decide_eq_decide]; exact ⟨Eq.symm, Eq.symm⟩
  simp only [List.find?_cons, e, List.find?_nil]
  by_cases h1 : a = T "x"
  · subst h1; exact ⟨t1, rfl⟩
  rw [decide_eq_false h1, if_neg h1]
  by_cases h2 : a = T "u"
  · subst h2; exact ⟨t2, rfl⟩
  rw [decide_eq_false h2, if_neg h2]
  by_cases h3 : a = T "U"
  · subst h3; exact ⟨t3, rfl⟩
  rw [decide_eq_false h3, if_neg h3]
  exact ⟨t0, rfl⟩
theorem most_get {d : Addr} {a1 a2 a3 t1 t2 t3 t0 : Tok} (S : St b s l) (G : (d, dk prog w (strPairs [(.str (Str.ofString "x") a1, .int 2 t1), (.str (Str.ofString "u") a2, .int 4 t2), (.str (Str.ofString "U") a3, .int 8 t3)])) ∈ l) (lo : (d == sysModules) = false)
    (h : ∀ t s', St b s' l → Q (.int (mostAt a) t) s') : wpAny (model prog w) A (call (.builtin "dict.get") [.ref d, .str (tx a) t, .int 0 t0]) Q E s := by
  refine dk_get2 S G lo fun s' S' => ?_
  obtain ⟨t, ht⟩ := most_at a t1 t2 t3 t0
  rw [show strPairs [(.str (Str.ofString "x") a1, .int 2 t1), (.str (Str.ofString "u") a2, .int 4 t2), (.str (Str.ofString "U") a3, .int 8 t3)] = [(Str.ofString "x", .int 2 t1), (Str.ofString "u", .int 4 t2), (Str.ofString "U", .int 8 t3)] from rfl, ht]
  exact h t s' S'
end
inductive HexP (b : Bs) (l' : Led) (L x dx : Addr) (c : Sc) (M : Nat) (H : Nat × Nat) (s : Shared) : Prop
  | mk (m : Str → Option Value) (u1 u2 u3 : Tok)
    (h1 : m "self" = some (.ref x) ∧ m "most" = some (.int (M : Nat) u1) ∧ m "count" = some (.int (H.1 : Nat) u2) ∧ m "code" = some (.int (H.2 : Nat) u3))
    (h2 : St b s ((L, fr m) :: (dx, scD (c.go (2 + H.1))) :: l'))
inductive HexI (b : Bs) (l' : Led) (L x dx : Addr) (c : Sc) (M : Nat) (H : Nat × Nat) (n : Nat) (s : Shared) : Prop
  | mk (j v : Nat) (m : Str → Option Value) (u1 u2 u3 : Tok)
    (h1 : H = hexS M j v (c.r.drop (2 + j)) ∧ (c.r.drop (2 + j)).length < n)
    (h2 : m "self" = some (.ref x) ∧ m "most" = some (.int (M : Nat) u1) ∧ m "count" = some (.int (j : Nat) u2) ∧ m "code" = some (.int (v : Nat) u3))
    (h3 : St b s ((L, fr m) :: (dx, scD (c.go (2 + j))) :: l'))
section
variable {prog : Program} {w : World} {A : Around} {E : Value → Shared → Prop} {b : Bs} {s : Shared} {l l' : Led} {x dx : Addr} {c : Sc} {Q : Value → Shared → Prop}
theorem esc_c {args : List Value} (X : Wd (KK w) b) (S : St b s l) (D : Del l dx (scD c) l') (G0 : (x, inst 289 dx) ∈ l') (hl : c.tl.length ≤ 1048576) (hi : Hi A l') (hr : Room A 8) (ha : args = [.ref x])
    (hu : escS c.r ≠ .un) (err : Lets b l' (fun sp => ∃ n, escS c.r = .err n ∧ sp = (c.go n).spot) E)
    (h : ∀ n o v t u1 u2 s', escS c.r = .ok (n, o, v) → St b s' ((t, tup [.bytes o.toArray u1, oi v u2]) :: (dx, scD (c.go n)) :: l') → Q (.ref t) s') : wpAny (model prog w) A (call (.ref 265) args) Q E s := by
  subst ha
  have G2 := D.mem
  have G1 := D.up G0
  have hh := hi.hh
  k_extra "enter"
  rename_i L S1
  k_extra "w"
  have hsg : sg c.step 0 = (c.r.drop 1).take 1 := go_sg c 1 0
  refine in_ES (by assumption) (by assumption) ?_
  intro s2 S2
  k_extra "w"
  refine w_ite (fun hc => ?_) (fun hc => ?_)
  · obtain ⟨k, hk⟩ := Option.isSome_iff_exists.mp hc
    have e : escS c.r = .ok (2, [k.toUInt8], some k) := by unfold escS; rw [← hsg, hk]
    k_extra "w"
    refine' item_ES (by assumption) (by assumption) hk ?_ ?s
    case s => with_unfolding_all rfl
    intro _ _ _ hk2
    k_extra "w"
    refine' r_bytes1 (k := k) (by assumption) ?g rfl (by omega) hh ?_
    rotate_left
    case g => k_extra "mem"
    intro _ _ _
    k_extra "w"
    refine' h 2 _ _ _ _ _ _ e ?st
    case st =>
      change St b _ ((_, tup [.bytes _ _, .int _ _]) :: (dx, scD c.step.step) :: _)
      k_extra "st!"
  · have hn : escAt (sg c.step 0) = none := by simpa using hc
    have e : escS c.r = if mostAt ((c.r.drop 1).take 1) = 0 then .err 1 else escTail (mostAt ((c.r.drop 1).take 1)) (hexS (mostAt ((c.r.drop 1).take 1)) 0 0 (c.r.drop 2)) := by unfold escS; rw [← hsg, hn]
    k_extra "w"
    refine' ⟨_, ?a, ?n, StR.ext (by assumption) (Ext.cons ?d Ext.all), ?_⟩
    case a => rfl
    case n => (simp only [strPairs, List.map_cons, List.map_nil]; decide +kernel)
    case d => k_extra "del"
    intro _ _
    k_extra "w"
    have hm := most_at (sg c.step 0)
    refine' most_get (by assumption) ?g ?z ?_
    case g => k_extra "mem"
    case z => assumption
    intro _ _ _
    rw [hsg]
    generalize hM : mostAt ((c.r.drop 1).take 1) = M at *
    k_extra "w"
    refine w_ite (fun hc => ?_) (fun hc => ?_)
    · have hc' : M = 0 := by simpa using hc
      rw [if_pos hc'] at e
      k_extra "w"
      exact (err.body hi rfl).raise (by assumption) ⟨_, by k_extra "ext"⟩ ⟨1, e, rfl⟩
    · have hc' : ¬ M = 0 := by simpa using hc
      rw [if_neg hc'] at e
      k_extra "w"
      generalize hH : hexS M 0 0 (c.r.drop 2) = H at *
      refine' r_whileP (HexP b l' L x dx c M H)
        (HexI b l' L x dx c M H) ?turn ?done (c.r.length + 1) ?base
      case base =>
        refine' ⟨0, 0, _, _, _, _, ⟨hH.symm, by simp only [List.length_drop]; omega⟩, ⟨?m1, ?m2, ?m3, ?m4⟩, ?st⟩
        case st =>
          change St b _ ((L, fr _) :: (dx, scD c.step.step) :: _)
          k_extra "st!"
        case m1 => k_extra "nm"
        case m2 => k_extra "nm"
        case m3 => show _ = some (Value.int 0 _); k_extra "nm"
        case m4 => show _ = some (Value.int 0 _); k_extra "nm"
      case turn =>
        rintro n s3 R Z hR ⟨j, v, m, u1, u2, u3, ⟨h1, h2⟩, ⟨m1, m2, m3, m4⟩, S3⟩
        have hlk : (c.go (2 + j)).tl.length ≤ 1048576 := by rw [go_tl]; exact hl
        cases n with
        | zero => exact absurd h2 (Nat.not_lt_zero _)
        | succ n =>
          have stop : ∀ s4, H = (j, v) → St b s4 ((L, fr m) :: (dx, scD (c.go (2 + j))) :: l') → HexP b l' L x dx c M H s4 := fun s4 q S4 => by
            rw [q]; exact ⟨m, u1, u2, u3, ⟨m1, m2, m3, m4⟩, S4⟩
          k_extra "w"
          refine w_ite (fun hc => ?_) (fun hc => ?_)
          · have hj : j < M := by have := of_decide_eq_true hc; omega
            k_extra "w"
            refine w_ite (fun hd => ?_) (fun hd => ?_)
            · have hd' : ¬ (c.go (2 + j)).r.take 1 = T "" := nd_t hd
              rw [go_r, show T "" = [] from lit_nil] at hd'
              obtain ⟨a, r', hr'⟩ : ∃ a r', c.r.drop (2 + j) = a :: r' := by
                cases hq : c.r.drop (2 + j) with
                | nil => rw [hq] at hd'; exact absurd rfl hd'
                | cons a r => exact ⟨a, r, rfl⟩
              have hsg2 : sg (c.go (2 + j)) 0 = [a] := by rw [go_sg]; show (c.r.drop (2 + j)).take 1 = [a]; rw [hr']; rfl
              have hdr : c.r.drop (2 + (j + 1)) = r' := by rw [← Nat.add_assoc, ← List.drop_drop, hr']; rfl
              have hlen : (c.r.drop (2 + (j + 1))).length < n := by rw [hdr]; rw [hr'] at h2; simp at h2; omega
              rw [hr'] at h1
              k_extra "w"
              refine w_ite (fun he => ?_) (fun he => ?_)
              · obtain ⟨i, rest, ho⟩ : ∃ i rest, occ (Str.ofString "0123456789abcdef") (Txt.lower (tx (sg (c.go (2 + j)) 0))) = i :: rest := by
                  cases hq : occ (Str.ofString "0123456789abcdef") (Txt.lower (tx (sg (c.go (2 + j)) 0))) with
                  | nil => rw [hq] at he; cases he
                  | cons i r => exact ⟨i, r, rfl⟩
                have hfi : hexIdx [a] = some i := by unfold hexIdx; rw [← hsg2, ho]; rfl
                have h3 : hexS M j v (a :: r') = hexS M (j + 1) (16 * v + i) r' := by rw [hexS, if_pos hj, hfi]
                k_extra "w"
                refine' ⟨n, Nat.lt_succ_self _, j + 1, 16 * v + i, _, _, _, _, ⟨?y1, hlen⟩, ⟨?m1, ?m2, ?m3, ?m4⟩, ?st⟩
                case st =>
                  change St b _ ((L, fr _) :: (dx, scD (c.go (2 + j)).step) :: _)
                  k_extra "st!"
                case m1 => k_extra "nm"
                case m2 => k_extra "nm"
                case m3 => k_extra "nm"
                case m4 => refine Eq.trans ?_ (congrArg (fun z : Int => some (Value.int z _)) (by push_cast; rfl : 16 * (v : Int) + i = ((16 * v + i : Nat) : Int))); k_extra "nm"
                case y1 => rw [h1, h3, hdr]
              · have hfi : hexIdx [a] = none := by
                  unfold hexIdx; rw [← hsg2]
                  cases hq : occ (Str.ofString "0123456789abcdef") (Txt.lower (tx (sg (c.go (2 + j)) 0))) with
                  | nil => rfl
                  | cons i r => rw [hq] at he; cases he
                rw [hexS, if_pos hj, hfi] at h1
                k_extra "w"
                exact stop _ h1 (by k_extra "st!")
            · have hd' : (c.go (2 + j)).r.take 1 = T "" := nd_f hd
              rw [go_r, show T "" = [] from lit_nil] at hd'
              have hnil : c.r.drop (2 + j) = [] := by
                cases hq : c.r.drop (2 + j) with
                | nil => rfl
                | cons a r => rw [hq] at hd'; cases hd'
              rw [hnil] at h1
              k_extra "w"
              exact stop _ h1 (by k_extra "st!")
          · have hj : ¬ j < M := by have := of_decide_eq_false hc; omega
            have h3 : H = (j, v) := by
              rw [h1]
              cases c.r.drop (2 + j) with
              | nil => rfl
              | cons a r => rw [hexS, if_neg hj]
            k_extra "w"
            exact stop _ h3 (by k_extra "st!")
      case done =>
        rintro s4 ⟨m, u1, u2, u3, ⟨m1, m2, m3, m4⟩, S4⟩
        have hlk : (c.go (2 + H.1)).tl.length ≤ 1048576 := by rw [go_tl]; exact hl
        have e0 : escS c.r = escTail M H := e
        have bad : H.1 = 0 ∨ 1114111 < H.2 ∨ (55296 ≤ H.2 ∧ H.2 ≤ 57343) → escS c.r = .err (2 + H.1) := fun q => by rw [e0]; unfold escTail; rw [if_pos q]
        k_extra "w"
        refine w_ite (fun hc1 => ?_) (fun hc1 => ?_)
        · have q1 : H.1 = 0 := by have := eq_of_beq hc1; omega
          k_extra "w"
          exact (err.body hi rfl).raise (by assumption) ⟨_, by k_extra "ext"⟩ ⟨_, bad (.inl q1), rfl⟩
        have q1 : ¬ H.1 = 0 := fun z => by rw [z] at hc1; simp at hc1
        k_extra "w"
        refine w_ite (fun hc2 => ?_) (fun hc2 => ?_)
        · have q2 : 1114111 < H.2 := by have := of_decide_eq_true hc2; omega
          k_extra "w"
          exact (err.body hi rfl).raise (by assumption) ⟨_, by k_extra "ext"⟩ ⟨_, bad (.inr (.inl q2)), rfl⟩
        have q2 : ¬ 1114111 < H.2 := by have := of_decide_eq_false hc2; omega
        k_extra "w"
        refine w_ite (fun hc3 => ?_) (fun hc3 => ?_)
        · have q3 : 55296 ≤ H.2 ∧ H.2 ≤ 57343 := of_decide_eq_true hc3
          k_extra "w"
          exact (err.body hi rfl).raise (by assumption) ⟨_, by k_extra "ext"⟩ ⟨_, bad (.inr (.inr q3)), rfl⟩
        have q3 : ¬ (55296 ≤ H.2 ∧ H.2 ≤ 57343) := of_decide_eq_false hc3
        have e1 : escS c.r = if M = 2 then (if H.2 < 256 then .ok (2 + H.1, [H.2.toUInt8], if H.2 < 128 then some H.2 else none) else .un) else if H.2 < 2048 then .ok (2 + H.1, enc2 H.2, some H.2) else .un := by
          rw [e0]; unfold escTail; rw [if_neg (fun z => z.elim q1 (fun z => z.elim q2 q3))]
        k_extra "w"
        refine w_ite (fun hc4 => ?_) (fun hc4 => ?_)
        · have q4 : M = 2 := by have := eq_of_beq hc4; omega
          rw [if_pos q4] at e1
          have q5 : H.2 < 256 := by
            refine Classical.byContradiction fun z => hu ?_
            rw [e1, if_neg z]
          rw [if_pos q5] at e1
          k_extra "w"
          refine' r_bytes1 (k := H.2) (by assumption) ?g rfl (by omega) hh ?_
          rotate_left
          case g => k_extra "mem"
          intro _ _ _
          k_extra "w"
          refine w_ite (fun hc6 => ?_) (fun hc6 => ?_)
          · have q6 : H.2 < 128 := by have := of_decide_eq_true hc6; omega
            rw [if_pos q6] at e1
            k_extra "w"
            refine' h _ _ _ _ _ _ _ e1 ?st
            case st =>
              change St b _ ((_, tup [.bytes _ _, .int _ _]) :: (dx, scD (c.go (2 + H.1))) :: _)
              k_extra "st!"
          · have q6 : ¬ H.2 < 128 := by have := of_decide_eq_false hc6; omega
            rw [if_neg q6] at e1
            k_extra "w"
            refine' h _ _ _ _ _ 0 _ e1 ?st
            case st =>
              change St b _ ((_, tup [.bytes _ _, .none]) :: (dx, scD (c.go (2 + H.1))) :: _)
              k_extra "st!"
        · have q4 : ¬ M = 2 := fun z => by rw [z] at hc4; simp at hc4
          rw [if_neg q4] at e1
          have q5 : H.2 < 2048 := by
            refine Classical.byContradiction fun z => hu ?_
            rw [e1, if_neg z]
          rw [if_pos q5] at e1
          k_extra "w"
          refine' h _ _ _ _ _ _ _ e1 ?st
          case st =>
            change St b _ ((_, tup [.bytes _ _, .int _ _]) :: (dx, scD (c.go (2 + H.1))) :: _)
            k_extra "st!"
end
theorem words_j3_esc : True := by
 (k_with "op.j3_esc0" => first
  | (focus ((with_reducible refine' in_ES ?_ ?_ ?_); (rotate_right 3); (· with_reducible assumption); (· with_reducible assumption); (intro _ _)))
  | fail "none")
 trivial
local macro_rules
  | `(tactic| k_extra "op") => `(tactic| k_extra "op.j3_esc0")
noncomputable def charEnd (r : List Nat) (n k : Nat) : Res (Nat × Nat) := if (r.drop n).take 1 = T "'" then .ok (n + 1, k) else .err n
noncomputable def charS2 (r : List Nat) : Res (Nat × Nat) :=
  if (r.drop 1).take 1 = T "\\" then (match escS (r.drop 1) with
    | .un => .un
    | .err n => .err (1 + n)
    | .ok (n, _, none) => .err (1 + n)
    | .ok (n, _, some k) => charEnd r (1 + n) k)
  else charEnd r 2 (((r.drop 1).take 1).headD 0)
noncomputable def charS (r : List Nat) : Res (Nat × Nat) := if (r.drop 1).take 1 ∈ [T "", T "\n", T "'"] then .err 1 else charS2 r
inductive ChC (b : Bs) (l' : Led) (L x dx : Addr) (c : Sc) (s : Shared) : Prop
  | mk (n k : Nat) (m : Str → Option Value) (u : Tok)
    (h1 : charS c.r = charEnd c.r n k)
    (h2 : m "self" = some (.ref x) ∧ m "code" = some (.int (k : Nat) u))
    (h3 : St b s ((L, fr m) :: (dx, scD (c.go n)) :: l'))
section
variable {prog : Program} {w : World} {A : Around} {E : Value → Shared → Prop} {b : Bs} {s : Shared} {l l' : Led} {x dx : Addr} {c : Sc} {Q : Value → Shared → Prop}
theorem char_c {args : List Value} (X : Wd (KK w) b) (S : St b s l) (D : Del l dx (scD c) l') (G0 : (x, inst 289 dx) ∈ l') (hl : c.tl.length ≤ 1048576) (hi : Hi A l') (hr : Room A 10) (ha : args = [.ref x])
    (hu : charS c.r ≠ .un) (err : Lets b l' (fun sp => ∃ n, charS c.r = .err n ∧ sp = (c.go n).spot) E)
    (h : ∀ n k u s', charS c.r = .ok (n, k) → St b s' ((dx, scD (c.go n)) :: l') → Q (.int (k : Nat) u) s') : wpAny (model prog w) A (call (.ref 272) args) Q E s := by
  subst ha
  have G2 := D.mem
  have G1 := D.up G0
  have hh := hi.hh
  k_extra "enter"
  rename_i L S1
  k_extra "w"
  have hsg : sg c.step 0 = (c.r.drop 1).take 1 := go_sg c 1 0
  refine w_ite (fun hc => ?_) (fun hc => ?_)
  · have hc' : (c.r.drop 1).take 1 ∈ [T "", T "\n", T "'"] := hsg ▸ (of_decide_eq_true hc : sg c.step 0 ∈ [T "", T "\n", T "'"])
    k_extra "w"
    exact (err.body hi rfl).raise (by assumption) ⟨_, by k_extra "ext"⟩ ⟨1, if_pos hc', rfl⟩
  · have hc' : ¬ (c.r.drop 1).take 1 ∈ [T "", T "\n", T "'"] := hsg ▸ (of_decide_eq_false hc : ¬ sg c.step 0 ∈ [T "", T "\n", T "'"])
    have e0 : charS c.r = charS2 c.r := if_neg hc'
    rw [charS2] at e0
    k_extra "w1"
    k_extra "w1"
    refine execs_cut (ChC b l' L x dx c) ?p1 ?p2
    case p1 =>
      k_extra "w"
      refine w_ite (fun hd => ?_) (fun hd => ?_)
      · have hd' : (c.r.drop 1).take 1 = T "\\" := hsg ▸ (of_decide_eq_true hd : sg c.step 0 = T "\\")
        rw [if_pos hd'] at e0
        have hgr : c.step.r = c.r.drop 1 := go_r c 1
        k_extra "w"
        with_reducible refine' esc_c (by assumption) (by assumption) ?d ?g ?z ?hi ?r ?a ?hu ?err ?_
        case a => rfl
        case d => k_extra "del"
        case z => k_extra "len"
        case g => k_extra "mem"
        case r => k_extra "room"
        case hi => k_extra "hi"
        case hu => intro q; rw [hgr] at q; rw [q] at e0; exact hu e0
        case err =>
          k_extra "er0"
          rintro sp ⟨n, q, rfl⟩
          rw [hgr] at q
          exact ⟨1 + n, by rw [e0, q], by rw [← go_add]; rfl⟩
        rintro n o v t u1 u2 s5 q S5
        rw [hgr] at q
        rw [q] at e0
        have hgo : c.step.go n = c.go (1 + n) := go_add c 1 n
        rw [hgo] at S5
        cases v with
        | none =>
          have S6 : St b s5 ((t, tup [.bytes o.toArray u1, .none]) :: _) := S5
          clear S5
          k_extra "w"
          exact (err.body hi rfl).raise (by assumption) ⟨_, by k_extra "ext"⟩ ⟨1 + n, e0, rfl⟩
        | some k =>
          have S6 : St b s5 ((t, tup [.bytes o.toArray u1, .int k u2]) :: _) := S5
          clear S5
          k_extra "w"
          refine' ⟨rfl, 1 + n, k, _, _, e0, ⟨?m1, ?m2⟩, ?st⟩
          case st => k_extra "st!"
          case m1 => k_extra "nm"
          case m2 => k_extra "nm"
      · have hd' : ¬ (c.r.drop 1).take 1 = T "\\" := hsg ▸ (of_decide_eq_false hd : ¬ sg c.step 0 = T "\\")
        rw [if_neg hd'] at e0
        obtain ⟨a, ha⟩ : ∃ a, sg c.step 0 = [a] := by
          rcases take1 (c.r.drop 1) with q | ⟨a, q⟩
          · exact absurd (by rw [q]; exact List.mem_cons_self) hc'
          · exact ⟨a, hsg.trans q⟩
        k_extra "w"
        refine' ⟨rfl, 2, a, _, _, ?e, ⟨?m1, ?m2⟩, ?st⟩
        case st =>
          change St b _ ((L, fr _) :: (dx, scD c.step.step) :: _)
          k_extra "st!"
        case m1 => k_extra "nm"
        case m2 => k_extra "nm"
        case e => rw [e0, ← hsg, ha]; rfl
    case p2 =>
      rintro s4 ⟨n, k, m, u, e1, ⟨m1, m2⟩, S4⟩
      have hlk : (c.go n).tl.length ≤ 1048576 := by rw [go_tl]; exact hl
      have hsg2 : sg (c.go n) 0 = (c.r.drop n).take 1 := go_sg c n 0
      k_extra "w"
      refine w_ite (fun hd => ?_) (fun hd => ?_)
      · have hd' : ¬ (c.r.drop n).take 1 = T "'" := hsg2 ▸ (nd_t hd : ¬ sg (c.go n) 0 = T "'")
        k_extra "w"
        exact (err.body hi rfl).raise (by assumption) ⟨_, by k_extra "ext"⟩ ⟨n, e1.trans (if_neg hd'), rfl⟩
      · have hd' : (c.r.drop n).take 1 = T "'" := hsg2 ▸ (nd_f hd : sg (c.go n) 0 = T "'")
        k_extra "w"
        refine' h (n + 1) k _ _ (e1.trans (if_pos hd')) ?st
        case st =>
          change St b _ ((dx, scD (c.go n).step) :: _)
          k_extra "st!"
end
/-- a piece of a text: what is put in, or octets -/
inductive Pc where
  | put (p : List Nat)
  | oct (o : List UInt8)
noncomputable def pcV : Pc → Tok → Value
  | .put p, t => .str (tx p) t
  | .oct o, t => .bytes o.toArray t
noncomputable def pcl (qs : List (Pc × Tok)) : List Value := qs.map fun q => pcV q.1 q.2
noncomputable def flush (ps : List Pc) (o : List UInt8) : List Pc := if o = [] then ps else ps ++ [.oct o]
noncomputable def closeT (ps : List Pc) (o : List UInt8) : List Pc := if o = [] ∧ ps ≠ [] then ps else ps ++ [.oct o]
noncomputable def textL (put : List Nat → Res (Nat × List Nat)) (r0 : List Nat) : Nat → Nat → List Pc → List UInt8 → Res (Nat × List Pc)
  | 0, _, _, _ => .un
  | f + 1, n, ps, o =>
    if (r0.drop n).take 1 = T "\"" then (if 1000 < ps.length then .un else .ok (n + 1, closeT ps o))
    else if (r0.drop n).take 1 = T "" then .err 0
    else if 1000 < ps.length ∨ 100000 < o.length then .un
    else if (r0.drop n).take 1 = T "\\" then (match escS (r0.drop n) with
      | .un => .un
      | .err k => .err (n + k)
      | .ok (k, o', _) => textL put r0 f (n + k) ps (o ++ o'))
    else if (r0.drop n).take 1 = T "$" then (match put (r0.drop n) with
      | .un => .un
      | .err k => .err (n + k)
      | .ok (k, p) => textL put r0 f (n + k) (flush ps o ++ [.put p]) [])
    else if 2048 ≤ ((r0.drop n).take 1).headD 0 then .un
    else textL put r0 f (n + 1) ps (o ++ enc2 (((r0.drop n).take 1).headD 0))
noncomputable def textS (put : List Nat → Res (Nat × List Nat)) (r : List Nat) : Res (Nat × List Pc) := textL put r (r.length + 1) 1 [] []
theorem enc2_len (k : Nat) : (enc2 k).length ≤ 2 := by unfold enc2; split <;> simp
theorem esc_len {r : List Nat} {n : Nat} {o : List UInt8} {v : Option Nat} (h : escS r = .ok (n, o, v)) : o.length ≤ 2 := by
  unfold escS at h
  split at h
  · cases h; simp
  · split at h
    · cases h
    · unfold escTail at h
      repeat' split at h
      all_goals first
        | (cases h; done)
        | (cases h; simp; done)
        | (cases h; exact enc2_len _)
/-- what is asked of put_in -/
noncomputable def PutC (prog : Program) (w : World) (b : Bs) (R : Nat) (d : Int) (put : List Nat → Res (Nat × List Nat)) : Prop :=
  ∀ {A : Around} {E : Value → Shared → Prop} {s : Shared} {l l' : Led} {x dx : Addr} {c : Sc} {Q : Value → Shared → Prop} {args : List Value}, St b s l → Del l dx (scD c) l' → (x, inst 289 dx) ∈ l' → c.tl.length ≤ 1048576 → Hi A l' → Room A R → args = [.ref x] →
    c.nested + d ≤ 12 → put c.r ≠ .un → Lets b l' (fun sp => ∃ n, put c.r = .err n ∧ sp = (c.go n).spot) E →
    (∀ n p t s', put c.r = .ok (n, p) → St b s' ((dx, scD (c.go n)) :: l') → Q (.str (tx p) t) s') → wpAny (model prog w) A (call (.ref 286) args) Q E s
inductive TxP (b : Bs) (l' : Led) (L x dx : Addr) (c : Sc) (put : List Nat → Res (Nat × List Nat)) (s : Shared) : Prop
  | mk (j : Nat) (qs : List (Pc × Tok)) (o : List UInt8) (m : Str → Option Value) (u : Tok) (fo : Addr)
    (h1 : textS put c.r = .ok (j + 1, closeT (qs.map (·.1)) o))
    (h2 : qs.length ≤ 1000)
    (h3 : m "self" = some (.ref x) ∧ m "found" = some (.ref fo) ∧ m "octets" = some (.bytes o.toArray u))
    (h4 : St b s ((L, fr m) :: (fo, lst (pcl qs)) :: (dx, scD (c.go j)) :: l'))
inductive TxI (b : Bs) (l' : Led) (L x dx : Addr) (c : Sc) (put : List Nat → Res (Nat × List Nat)) (n : Nat) (s : Shared) : Prop
  | mk (j : Nat) (qs : List (Pc × Tok)) (o : List UInt8) (m : Str → Option Value) (t : Addr) (t1 t2 : Tok) (fo : Addr) (u : Tok)
    (h1 : textS put c.r = textL put c.r n j (qs.map (·.1)) o)
    (h2 : m "self" = some (.ref x) ∧ m "begun" = some (.ref t) ∧ m "found" = some (.ref fo) ∧ m "octets" = some (.bytes o.toArray u))
    (h3 : St b s ((L, fr m) :: (fo, lst (pcl qs)) :: (dx, scD (c.go j)) :: (t, tup [.int c.line t1, .int ((c.at_ : Int) - c.ls + 1) t2]) :: l'))
inductive TxC (b : Bs) (l' : Led) (L x dx : Addr) (c : Sc) (qs : List (Pc × Tok)) (o : List UInt8) (t fo : Addr) (t1 t2 : Tok) (j : Nat) (s : Shared) : Prop
  | mk (qs' : List (Pc × Tok)) (m' : Str → Option Value)
    (h1 : qs'.map (·.1) = flush (qs.map (·.1)) o)
    (h2 : qs'.length ≤ 1001)
    (h3 : m' "self" = some (.ref x) ∧ m' "begun" = some (.ref t) ∧ m' "found" = some (.ref fo))
    (h4 : St b s ((L, fr m') :: (fo, lst (pcl qs')) :: (dx, scD (c.go j)) :: (t, tup [.int c.line t1, .int ((c.at_ : Int) - c.ls + 1) t2]) :: l'))
section
variable {prog : Program} {w : World} {A : Around} {E : Value → Shared → Prop} {b : Bs} {s : Shared} {l l' : Led} {x dx : Addr} {c : Sc} {Q : Value → Shared → Prop} {R : Nat} {d : Int} {put : List Nat → Res (Nat × List Nat)}
theorem text_c {args : List Value} (X : Wd (KK w) b) (hput : PutC prog w b R d put) (S : St b s l) (D : Del l dx (scD c) l') (G0 : (x, inst 289 dx) ∈ l') (hl : c.tl.length ≤ 1048576) (hi : Hi A l') (hrp : Room A (R + 1)) (hr : Room A 10) (ha : args = [.ref x])
    (hn : c.nested + d ≤ 12) (hu : textS put c.r ≠ .un) (err : Lets b l' (fun sp => ∃ n, textS put c.r = .err n ∧ sp = (c.go n).spot) E)
    (h : ∀ n ps t qs s', textS put c.r = .ok (n, ps) → qs.map (·.1) = ps → St b s' ((t, tup (pcl qs)) :: (dx, scD (c.go n)) :: l') → Q (.ref t) s') : wpAny (model prog w) A (call (.ref 279) args) Q E s := by
  subst ha
  have G2 := D.mem
  have G1 := D.up G0
  have hh := hi.hh
  k_extra "enter"
  rename_i L S1
  k_extra "w"
  refine' r_whileP (TxP b l' L x dx c put)
    (TxI b l' L x dx c put) ?turn ?done (c.r.length + 1) ?base
  case base =>
    refine' ⟨1, [], [], _, _, _, _, _, _, rfl, ⟨?m1, ?m2, ?m3, ?m4⟩, ?st⟩
    case st =>
      change St b _ ((L, fr _) :: (_, lst []) :: (dx, scD c.step) :: _)
      k_extra "st!"
    case m1 => k_extra "nm"
    case m2 => k_extra "nm"
    case m3 => k_extra "nm"
    case m4 => k_extra "nm"
  case turn =>
    rintro n s3 R Z hR ⟨j, qs, o, m, t, t1, t2, fo, u, h1, ⟨m1, m2, m3, m4⟩, S3⟩
    have hlk : (c.go j).tl.length ≤ 1048576 := by rw [go_tl]; exact hl
    have hsg : sg (c.go j) 0 = (c.r.drop j).take 1 := go_sg c j 0
    have hgr : (c.go j).r = c.r.drop j := go_r c j
    cases n with
    | zero => exact absurd h1 hu
    | succ n =>
      rw [textL] at h1
      k_extra "w"
      refine w_ite (fun hc => ?_) (fun hc => ?_)
      · have hc' : ¬ (c.r.drop j).take 1 = T "\"" := hsg ▸ (nd_t hc : ¬ sg (c.go j) 0 = T "\"")
        rw [if_neg hc'] at h1
        k_extra "w"
        refine w_ite (fun hd => ?_) (fun hd => ?_)
        · have hd' : (c.r.drop j).take 1 = T "" := hsg ▸ (of_decide_eq_true hd : sg (c.go j) 0 = T "")
          rw [if_pos hd'] at h1
          k_extra "w"
          exact ((err.body hi rfl).loop (Hb.of hi rfl)).raise (by assumption) ⟨_, by k_extra "ext"⟩ ⟨0, h1, rfl⟩
        · have hd' : ¬ (c.r.drop j).take 1 = T "" := hsg ▸ (of_decide_eq_false hd : ¬ sg (c.go j) 0 = T "")
          rw [if_neg hd'] at h1
          have hsz : ¬ (1000 < (qs.map (·.1)).length ∨ 100000 < o.length) := fun q => hu (by rw [h1, if_pos q])
          rw [if_neg hsz] at h1
          have hq1 : qs.length ≤ 1000 := by simp at hsz; omega
          have hq2 : o.length ≤ 100000 := by omega
          obtain ⟨a, ha⟩ : ∃ a, sg (c.go j) 0 = [a] := by
            rcases take1 (c.r.drop j) with q | ⟨a, q⟩
            · exact absurd (q.trans lit_nil.symm) hd'
            · exact ⟨a, hsg.trans q⟩
          k_extra "w"
          refine w_ite (fun he => ?_) (fun he => ?_)
          · have he' : (c.r.drop j).take 1 = T "\\" := hsg ▸ (of_decide_eq_true he : sg (c.go j) 0 = T "\\")
            rw [if_pos he'] at h1
            k_extra "w"
            with_reducible refine' esc_c (by assumption) (by assumption) ?d ?g ?z ?hi ?r ?a ?hu ?err ?_
            case a => rfl
            case d => k_extra "del"
            case z => k_extra "len"
            case g => k_extra "mem"
            case r => k_extra "room"
            case hi => k_extra "hi"
            case hu => intro q; rw [hgr] at q; rw [q] at h1; exact hu h1
            case err =>
              k_extra "er1"
              rintro sp ⟨k, q, rfl⟩
              rw [hgr] at q
              exact ⟨j + k, by rw [h1, q], by rw [← go_add]⟩
            rintro k o' v tt u1 u2 s5 q S5
            rw [hgr] at q
            rw [q] at h1
            have hq3 : o.length + o'.length ≤ 16777216 := by have := esc_len q; omega
            rw [go_add] at S5
            k_extra "w"
            refine' ⟨n, Nat.lt_succ_self _, j + k, qs, o ++ o', _, _, _, _, _, _, h1, ⟨?m1, ?m2, ?m3, ?m4⟩, ?st⟩
            case st => k_extra "st!"
            case m1 => k_extra "nm"
            case m2 => k_extra "nm"
            case m3 => k_extra "nm"
            case m4 => k_extra "nm"
          · have he' : ¬ (c.r.drop j).take 1 = T "\\" := hsg ▸ (of_decide_eq_false he : ¬ sg (c.go j) 0 = T "\\")
            rw [if_neg he'] at h1
            k_extra "w"
            refine w_ite (fun hf => ?_) (fun hf => ?_)
            · have hf' : (c.r.drop j).take 1 = T "$" := hsg ▸ (of_decide_eq_true hf : sg (c.go j) 0 = T "$")
              rw [if_pos hf'] at h1
              refine execs_cut (TxC b l' L x dx c qs o t fo t1 t2 j) ?p1 ?p2
              case p1 =>
                k_extra "w"
                refine w_ite (fun hg => ?_) (fun hg => ?_)
                · have hl1 : (pcl qs).length ≤ 1048576 := by simp [pcl]; omega
                  k_extra "w"
                  refine' ⟨rfl, qs ++ [(.oct o, u)], _, ?e1, ?e2, ⟨?m1, ?m2, ?m3⟩, ?st⟩
                  case st =>
                    rw [show pcl (qs ++ [(.oct o, u)]) = pcl qs ++ [.bytes o.toArray u] by simp [pcl, pcV]]
                    k_extra "st!"
                  case m1 => k_extra "nm"
                  case m2 => k_extra "nm"
                  case m3 => k_extra "nm"
                  case e1 => unfold flush; rw [if_neg (nd_t hg)]; simp
                  case e2 => simp; omega
                · k_extra "w"
                  refine' ⟨rfl, qs, _, ?e1, ?e2, ⟨?m1, ?m2, ?m3⟩, ?st⟩
                  case st => k_extra "st!"
                  case m1 => k_extra "nm"
                  case m2 => k_extra "nm"
                  case m3 => k_extra "nm"
                  case e1 => unfold flush; rw [if_pos (nd_f hg)]
                  case e2 => omega
              case p2 =>
                rintro s5 ⟨qs', m', e1, e2, ⟨m1', m2', m3'⟩, S5⟩
                have hl1 : (pcl qs').length ≤ 1048576 := by simp [pcl]; omega
                clear m1 m2 m3 m4
                k_extra "w"
                refine' hput (by assumption) ?d ?g hlk ?hi ?r rfl ?nn ?hu ?err ?_
                case d => k_extra "del"
                case g => k_extra "mem"
                case r => exact Room.deep hrp (Nat.le_refl _)
                case hi => k_extra "hi"
                case nn => rw [go_nested]; exact hn
                case hu => intro q; rw [hgr] at q; rw [q] at h1; exact hu h1
                case err =>
                  k_extra "er1"
                  rintro sp ⟨k, q, rfl⟩
                  rw [hgr] at q
                  exact ⟨j + k, by rw [h1, q], by rw [← go_add]⟩
                rintro k p tp s6 q S6
                rw [hgr] at q
                rw [q] at h1
                rw [go_add] at S6
                k_extra "w"
                refine' ⟨n, Nat.lt_succ_self _, j + k, qs' ++ [(.put p, tp)], [], _, _, _, _, _, _, ?e, ⟨?m1, ?m2, ?m3, ?m4⟩, ?st⟩
                case st =>
                  rw [show pcl (qs' ++ [(.put p, tp)]) = pcl qs' ++ [.str (tx p) tp] by simp [pcl, pcV]]
                  k_extra "st!"
                case m1 => k_extra "nm"
                case m2 => k_extra "nm"
                case m3 => k_extra "nm"
                case m4 => k_extra "nm"
                case e => rw [h1, List.map_append, e1]; rfl
            · have hf' : ¬ (c.r.drop j).take 1 = T "$" := hsg ▸ (of_decide_eq_false hf : ¬ sg (c.go j) 0 = T "$")
              rw [if_neg hf', ← hsg, ha] at h1
              have hz : a < 2048 := Classical.byContradiction fun q => hu (by rw [h1, if_pos (by show 2048 ≤ a; omega)])
              rw [if_neg (by show ¬ 2048 ≤ a; omega)] at h1
              have hq3 : o.length + (enc2 a).length ≤ 16777216 := by have := enc2_len a; omega
              k_extra "w"
              refine' ⟨n, Nat.lt_succ_self _, j + 1, qs, o ++ enc2 a, _, _, _, _, _, _, h1, ⟨?m1, ?m2, ?m3, ?m4⟩, ?st⟩
              case st =>
                change St b _ ((L, fr _) :: (_, lst _) :: (dx, scD (c.go j).step) :: _)
                k_extra "st!"
              case m1 => k_extra "nm"
              case m2 => k_extra "nm"
              case m3 => k_extra "nm"
              case m4 => k_extra "nm"
      · have hc' : (c.r.drop j).take 1 = T "\"" := hsg ▸ (nd_f hc : sg (c.go j) 0 = T "\"")
        rw [if_pos hc'] at h1
        have hq1 : ¬ 1000 < (qs.map (·.1)).length := fun q => hu (by rw [h1, if_pos q])
        rw [if_neg hq1] at h1
        k_extra "w"
        refine ⟨j, qs, o, m, u, fo, h1, by simp at hq1; omega, ⟨m1, m3, m4⟩, by k_extra "st!"⟩
  case done =>
    rintro s4 ⟨j, qs, o, m, u, fo, h1, hq1, ⟨m1, m3, m4⟩, S4⟩
    have hlk : (c.go j).tl.length ≤ 1048576 := by rw [go_tl]; exact hl
    have hl1 : (pcl qs).length ≤ 1048576 := by simp [pcl]; omega
    have fin : ∀ t s', St b s' ((t, tup (pcl qs ++ [.bytes o.toArray u])) :: (dx, scD (c.go j).step) :: l') → ¬ (o = [] ∧ qs.map (·.1) ≠ []) → Q (.ref t) s' := fun t s' S' q => by
      refine h (j + 1) _ t (qs ++ [(.oct o, u)]) s' h1 (by unfold closeT; rw [if_neg q]; simp) ?_
      rw [show pcl (qs ++ [(.oct o, u)]) = pcl qs ++ [.bytes o.toArray u] by simp [pcl, pcV]]
      exact S'
    k_extra "w"
    refine w_ite (fun hc => ?_) (fun hc => ?_)
    · have hl2 : (pcl qs ++ [Value.bytes o.toArray u]).length ≤ 1048576 := by simp [pcl]; omega
      k_extra "w"
      exact fin _ _ (by k_extra "st!") (fun z => nd_t hc z.1)
    · k_extra "w"
      refine w_ite (fun hd => ?_) (fun hd => ?_)
      · have hl2 : (pcl qs ++ [Value.bytes o.toArray u]).length ≤ 1048576 := by simp [pcl]; omega
        have hq : qs = [] := by have := of_decide_eq_true hd; simpa [pcl] using this
        k_extra "w"
        exact fin _ _ (by k_extra "st!") (fun z => z.2 (by rw [hq]; rfl))
      · have hq : ¬ qs = [] := by have := of_decide_eq_false hd; simpa [pcl] using this
        k_extra "w"
        refine' h (j + 1) _ _ qs _ h1 ?e ?st
        case e => unfold closeT; rw [if_pos ⟨nd_f hc, by simpa using hq⟩]
        case st =>
          change St b _ ((_, tup _) :: (dx, scD (c.go j).step) :: _)
          k_extra "st!"
end
inductive Vl where
  | none
  | int (k : Nat)
  | tup (ps : List Pc)
inductive Vx where
  | none
  | int (k : Nat) (u : Tok)
  | tup (t : Addr) (qs : List (Pc × Tok))
noncomputable def Vx.v : Vx → Value
  | .none => Value.none
  | .int k u => .int k u
  | .tup t _ => .ref t
noncomputable def Vx.led : Vx → Led
  | .tup t qs => [(t, Mine.tup (pcl qs))]
  | _ => []
noncomputable def Vx.sp : Vx → Vl
  | .none => .none
  | .int k _ => .int k
  | .tup _ qs => .tup (qs.map (·.1))
noncomputable def SIGNSL : List (List Nat) := [T ".===", T ".!==", T "===", T "!==", T "...", T "//=", T ".//", T ".==", T ".!=", T ".<=", T ".>=", T ".<<", T ".>>", T "==", T "!=", T "<=", T ">=", T "<:", T ">:", T "->", T "::", T "&&", T "||", T "|>", T "//", T "<<", T ">>", T "+=", T "-=", T "*=", T "%=", T "|=", T "&=", T ".=", T ".+", T ".-", T ".*", T ".%", T ".^", T ".&", T ".|", T ".<", T ".>", T "+", T "-", T "*", T "%", T "&", T "|", T "^", T "~", T "!", T "<", T ">", T "=", T "?", T ":", T ".", T ",", T ";", T "(", T ")", T "[", T "]", T "{", T "}", T "$"]
noncomputable def signIn (L : List (List Nat)) (r : List Nat) : Option (List Nat) := L.find? fun t => decide (r.take t.length = t)
noncomputable def intS (r : List Nat) : Res (Nat × List Nat × Vl) :=
  if 1200 < (digS (baseOf r) 0 0 (r.drop (numSkip r))).1 then .un else (match numS r with
    | .error n => .err n
    | .ok (n, v) => .ok (n, T "int", .int v))
noncomputable def restS (r : List Nat) : Res (Nat × List Nat × Vl) := match signIn SIGNSL r with
  | some t => .ok (t.length, T "sign", .none)
  | none => .err 0
noncomputable def kvS (put : List Nat → Res (Nat × List Nat)) (ms : List (List Nat)) (r : List Nat) : Res (Nat × List Nat × Vl) :=
  if r.take 1 = T "" then .ok (0, T "end", .none)
  else if r.take 1 = T "\n" then .ok (1, T "line", .none)
  else if isIn (r.take 1) (T "0123456789") = true then intS r
  else if r.take 1 = T "\"" then (match textS put r with
    | .un => .un
    | .err n => .err n
    | .ok (n, ps) => .ok (n, T "text", .tup ps))
  else if r.take 1 = T "'" then (match charS r with
    | .un => .un
    | .err n => .err n
    | .ok (n, k) => .ok (n, T "char", .int k))
  else if nameStart (r.take 1) = true ∨ (r.take 1 = T "@" ∧ nameStart ((r.drop 1).take 1) = true) then .ok (nameLen r, nameKind ms (r.take (nameLen r)), .none)
  else restS r
theorem go_plain {c : Sc} : ∀ {n : Nat}, (∀ a ∈ c.r.take n, a ≠ 10) → n ≤ c.r.length → c.go n = { c with at_ := c.at_ + n }
  | 0, _, _ => rfl
  | n + 1, h, hn => by
    have ih : c.go n = { c with at_ := c.at_ + n } := go_plain (n := n) (fun a ha => h a (List.take_subset_take_left _ (Nat.le_succ n) ha)) (by omega)
    show (c.go n).step = _
    have hsg : sg (c.go n) 0 = (c.r.drop n).take 1 := go_sg c n 0
    have hne : ¬ (c.go n).r.take 1 = [10] := by
      rw [go_r]
      intro q
      rw [List.drop_eq_getElem_cons (by omega)] at q
      have q2 : c.r[n] = 10 := (List.cons.inj q).1
      exact h c.r[n] (List.mem_take_iff_getElem.mpr ⟨n, by omega, rfl⟩) q2
    rw [step_plain hne, ih]
    rfl
theorem signs_ok : SIGNSL.all (fun t => decide (t ≠ []) && decide (t.length ≤ 4) && t.all (fun a => decide (a ≠ 10))) = true := by decide +kernel
section
variable {prog : Program} {w : World} {A : Around} {E : Value → Shared → Prop} {b : Bs} {s : Shared} {l l' : Led} {x dx : Addr} {c : Sc} {Q : Value → Shared → Prop} {R : Nat} {d : Int} {put : List Nat → Res (Nat × List Nat)} {ms : List (List Nat)}
theorem signs_at (X : Wd (KK w) b) : ∃ vs : List Value, b.B.IsTuple 91 vs.toArray ∧ vs.all isStrV = true ∧ vs.map strOf = SIGNSL := ⟨_, ⟨_, X.inK 91 _ rfl, rfl, _, rfl⟩, rfl, rfl⟩
theorem strs_get {vs : List Value} {L : List (List Nat)} {i : Nat} {v : Value} (h1 : vs.all isStrV = true) (h2 : vs.map strOf = L) (hv : vs[i]? = some v) : ∃ y u, v = .str y u ∧ L.drop i = y.cps.toList :: L.drop (i + 1) := by
  obtain ⟨hlt, he⟩ := List.getElem?_eq_some_iff.mp hv
  have ha := List.all_eq_true.mp h1 v (he ▸ List.getElem_mem hlt)
  cases v <;> first | cases ha | skip
  rename_i y u
  refine ⟨y, u, rfl, ?_⟩
  subst h2
  rw [List.drop_eq_getElem_cons (by simpa using hlt)]
  simp [he, strOf]
theorem signIn_cons {t : List Nat} {L : List (List Nat)} {r : List Nat} : signIn (t :: L) r = if r.take t.length = t then some t else signIn L r := by
  unfold signIn
  rw [List.find?_cons]
  by_cases h : r.take t.length = t
  · rw [decide_eq_true h, if_pos h]
  · rw [decide_eq_false h, if_neg h]
inductive KvM (b : Bs) (l' : Led) (L x dx : Addr) (c : Sc) (z : Res (Nat × List Nat × Vl)) (s : Shared) : Prop
  | mk (e1 : restS c.r = z) (m : Str → Option Value) (m1 : m "self" = some (.ref x)) (S : St b s ((L, fr m) :: (dx, scD c) :: l'))
inductive KvI (l' : Led) (L x dx : Addr) (c : Sc) (i : Nat) (l1 : Led) : Prop
  | mk (h1 : signIn SIGNSL c.r = signIn (SIGNSL.drop i) c.r) (m : Str → Option Value) (m1 : m "self" = some (.ref x)) (e : l1 = (L, fr m) :: (dx, scD c) :: l')
theorem kv_c {args : List Value} (X : Wd (KK w) b) (hput : PutC prog w b R d put) (S : St b s l) (D : Del l dx (scD c) l') (G0 : (x, inst 289 dx) ∈ l') (G3 : (c.ml, mk ms) ∈ l') (hl : c.tl.length ≤ 1048576) (hz : ms.length ≤ 1048576) (hi : Hi A l') (hrp : Room A (R + 2)) (hr : Room A 12) (ha : args = [.ref x])
    (hn : c.nested + d ≤ 12) (hu : kvS put ms c.r ≠ .un) (err : Lets b l' (fun sp => ∃ n, kvS put ms c.r = .err n ∧ sp = (c.go n).spot) E)
    (h : ∀ n kind (vx : Vx) t u s', kvS put ms c.r = .ok (n, kind, vx.sp) → St b s' ((t, tup [.str (tx kind) u, vx.v]) :: (dx, scD (c.go n)) :: (vx.led ++ l')) → Q (.ref t) s') : wpAny (model prog w) A (call (.ref 230) args) Q E s := by
  subst ha
  have G2 := D.mem
  have G1 := D.up G0
  have hh := hi.hh
  generalize e0 : kvS put ms c.r = z at hu err h
  rw [kvS] at e0
  k_extra "enter"
  rename_i L S1
  k_extra "w"
  refine w_ite (fun hc => ?_) (fun hc => ?_)
  · rw [if_pos (of_decide_eq_true hc : c.r.take 1 = T "")] at e0
    k_extra "w"
    refine' h 0 _ .none _ _ _ e0.symm ?st
    case st =>
      change St b _ ((_, tup [.str _ _, .none]) :: (dx, scD c) :: l')
      k_extra "st!"
  rw [if_neg (of_decide_eq_false hc : ¬ c.r.take 1 = T "")] at e0
  k_extra "w"
  refine w_ite (fun hd => ?_) (fun hd => ?_)
  · rw [if_pos (of_decide_eq_true hd : c.r.take 1 = T "\n")] at e0
    k_extra "w"
    refine' h 1 _ .none _ _ _ e0.symm ?st
    case st =>
      change St b _ ((_, tup [.str _ _, .none]) :: (dx, scD c.step) :: l')
      k_extra "st!"
  rw [if_neg (of_decide_eq_false hd : ¬ c.r.take 1 = T "\n")] at e0
  k_extra "w"
  refine w_ite (fun he => ?_) (fun he => ?_)
  · have he' : isIn (c.r.take 1) (T "0123456789") = true := (found_isIn _ sg_len).symm.trans he
    rw [if_pos he', intS] at e0
    have hN : (digS (baseOf c.r) 0 0 (c.r.drop (numSkip c.r))).1 ≤ 1200 := Classical.byContradiction fun q => hu (by rw [← e0, if_pos (by omega)])
    rw [if_neg (by omega)] at e0
    k_extra "w"
    with_reducible refine' num_c (by assumption) (by assumption) ?d ?g ?z ?hi ?r ?a ?hN ?err ?_
    case a => rfl
    case d => k_extra "del"
    case z => k_extra "len"
    case g => k_extra "mem"
    case r => k_extra "room"
    case hi => k_extra "hi"
    case hN => exact hN
    case err =>
      k_extra "er0"
      rintro sp ⟨n, q, rfl⟩
      rw [q] at e0
      exact ⟨n, e0.symm, rfl⟩
    rintro n v u s5 q S5
    rw [q] at e0
    k_extra "w"
    refine' h n _ (.int v u) _ _ _ e0.symm ?st
    case st =>
      change St b _ ((_, tup [.str _ _, .int _ _]) :: (dx, scD (c.go n)) :: l')
      k_extra "st!"
  rw [if_neg (by rw [show isIn (c.r.take 1) (T "0123456789") = false from (found_isIn _ sg_len).symm.trans he]; decide)] at e0
  k_extra "w"
  refine w_ite (fun hf => ?_) (fun hf => ?_)
  · rw [if_pos (of_decide_eq_true hf : c.r.take 1 = T "\"")] at e0
    k_extra "w"
    refine' text_c (by assumption) hput (by assumption) ?d ?g hl ?hi ?rp ?r rfl hn ?hu ?err ?_
    case d => k_extra "del"
    case g => k_extra "mem"
    case rp => exact Room.deep hrp (Nat.le_refl _)
    case r => exact Room.deep hr (by decide)
    case hi => k_extra "hi"
    case hu => intro q; rw [q] at e0; exact hu e0.symm
    case err =>
      k_extra "er0"
      rintro sp ⟨n, q, rfl⟩
      rw [q] at e0
      exact ⟨n, e0.symm, rfl⟩
    rintro n ps tt qs s5 q q2 S5
    rw [q, ← q2] at e0
    k_extra "w"
    refine' h n _ (.tup tt qs) _ _ _ e0.symm ?st
    case st =>
      change St b _ ((_, tup [.str _ _, .ref tt]) :: (dx, scD (c.go n)) :: (tt, tup (pcl qs)) :: l')
      k_extra "st!"
  rw [if_neg (of_decide_eq_false hf : ¬ c.r.take 1 = T "\"")] at e0
  k_extra "w"
  refine w_ite (fun hg => ?_) (fun hg => ?_)
  · rw [if_pos (of_decide_eq_true hg : c.r.take 1 = T "'")] at e0
    k_extra "w"
    with_reducible refine' char_c (by assumption) (by assumption) ?d ?g ?z ?hi ?r ?a ?hu ?err ?_
    case a => rfl
    case d => k_extra "del"
    case z => k_extra "len"
    case g => k_extra "mem"
    case r => k_extra "room"
    case hi => k_extra "hi"
    case hu => intro q; rw [q] at e0; exact hu e0.symm
    case err =>
      k_extra "er0"
      rintro sp ⟨n, q, rfl⟩
      rw [q] at e0
      exact ⟨n, e0.symm, rfl⟩
    rintro n v u s5 q S5
    rw [q] at e0
    k_extra "w"
    refine' h n _ (.int v u) _ _ _ e0.symm ?st
    case st =>
      change St b _ ((_, tup [.str _ _, .int _ _]) :: (dx, scD (c.go n)) :: l')
      k_extra "st!"
  rw [if_neg (of_decide_eq_false hg : ¬ c.r.take 1 = T "'")] at e0
  k_extra "w1"
  k_extra "w1"
  refine execs_cutR (KvM b l' L x dx c z) ?p1 ?p2
  case p1 =>
      k_extra "w"
      refine w_ite (fun hk => ?_) (fun hk => ?_)
      · rw [if_pos (.inl hk)] at e0
        k_extra "w"
        refine' name_c (by assumption) (by assumption) ?d ?g ?g3 hl hh hz ?r rfl ?_
        case d => k_extra "del"
        case g => k_extra "mem"
        case g3 => exact List.mem_cons_of_mem _ G3
        case r => exact Room.deep hr (by decide)
        intro u s5 S5
        k_extra "w"
        refine' h _ _ .none _ _ _ e0.symm ?st
        case st =>
          change St b _ ((_, tup [.str _ _, .none]) :: (dx, scD (c.go (nameLen c.r))) :: l')
          k_extra "st!"
      k_extra "w"
      have tail : ¬ (nameStart (c.r.take 1) = true ∨ (c.r.take 1 = T "@" ∧ nameStart ((c.r.drop 1).take 1) = true)) → restS c.r = z := fun q => by rw [if_neg q] at e0; exact e0
      refine w_ite (fun hm => ?_) (fun hm => ?_)
      · have hm' : c.r.take 1 = T "@" := of_decide_eq_true hm
        k_extra "w"
        refine w_ite (fun ho => ?_) (fun ho => ?_)
        · have ho' : nameStart ((c.r.drop 1).take 1) = true := ho
          rw [if_pos (.inr ⟨hm', ho'⟩)] at e0
          k_extra "w"
          refine' name_c (by assumption) (by assumption) ?d ?g ?g3 hl hh hz ?r rfl ?_
          case d => k_extra "del"
          case g => k_extra "mem"
          case g3 => exact List.mem_cons_of_mem _ G3
          case r => exact Room.deep hr (by decide)
          intro u s5 S5
          k_extra "w"
          refine' h _ _ .none _ _ _ e0.symm ?st
          case st =>
            change St b _ ((_, tup [.str _ _, .none]) :: (dx, scD (c.go (nameLen c.r))) :: l')
            k_extra "st!"
        · have e1 := tail (fun q => q.elim (fun z => by rw [show nameStart (c.r.take 1) = false from hk] at z; cases z) (fun z => by have := z.2; rw [show nameStart ((c.r.drop 1).take 1) = false from ho] at this; cases this))
          k_extra "w"
          refine' ⟨e1, _, ?m1, ?st⟩
          case st => k_extra "st!"
          case m1 => k_extra "nm"
      · have e1 := tail (fun q => q.elim (fun z => by rw [show nameStart (c.r.take 1) = false from hk] at z; cases z) (fun z => absurd z.1 (of_decide_eq_false hm : ¬ c.r.take 1 = T "@")))
        k_extra "w"
        refine' ⟨e1, _, ?m1, ?st⟩
        case st => k_extra "st!"
        case m1 => k_extra "nm"
  case p2 =>
    rintro s4 ⟨e1, m, m1, S4⟩
    clear e0
    obtain ⟨vs, hT, hv1, hv2⟩ := signs_at X
    k_extra "w"
    refine r_iter_tup (vs := vs) (by assumption) ?ht ?_
    case ht => exact (let ⟨o, ho, r⟩ := hT; ⟨o, StR.stays (by assumption) _ _ ho, r⟩)
    intro it s5 S5
    k_extra "w"
    have hts : ∀ s l, True → St b s l → s.heap.IsTuple 91 vs.toArray := fun s l _ S => by obtain ⟨o, ho, r⟩ := hT; exact ⟨o, S.stays _ _ ho, r⟩
    refine' r_forLoop (iter_tup (vs := vs) (pre := fun _ => True) hts) hh (KvI l' L x dx c) ?turn ?done ⟨rfl, m, ?m1, rfl⟩ trivial ?st
    case st => k_extra "st!"
    case m1 => exact m1
    case turn =>
      rintro i s6 l6 v R Z hR hlt ⟨h1, m, m1, rfl⟩ _ hv S6
      obtain ⟨y, uy, rfl, hy⟩ := strs_get hv1 hv2 hv
      rw [hy, signIn_cons] at h1
      have hmem : y.cps.toList ∈ SIGNSL := List.mem_of_mem_drop (i := i) (by rw [hy]; exact List.mem_cons_self)
      have hok := List.all_eq_true.mp signs_ok _ hmem
      simp only [Bool.and_eq_true, decide_eq_true_eq, List.all_eq_true] at hok
      obtain ⟨⟨hy0, hy4⟩, hy10⟩ := hok
      k_extra "w"
      refine r_sw_from rfl hy0 ?_
      k_extra "w"
      refine w_ite (fun hc => ?_) (fun hc => ?_)
      · have hc' : c.r.take y.cps.toList.length = y.cps.toList := of_decide_eq_true hc
        rw [if_pos hc'] at h1
        rw [restS, h1] at e1
        have hz4 : y.length ≤ 1048576 := by have : y.length = y.cps.toList.length := by simp [Str.length]
                                            omega
        k_extra "w"
        refine r_len (by assumption) hz4 ?_
        intro _ _ _
        k_extra "w"
        have hg : c.go y.cps.toList.length = { c with at_ := c.at_ + y.cps.toList.length } := go_plain (fun a ha => hy10 a (hc' ▸ ha)) (by
          have := congrArg List.length hc'
          simp only [List.length_take] at this
          omega)
        refine' h _ _ .none _ _ _ e1.symm ?st
        case st =>
          rw [hg]
          change St b _ ((_, tup [.str _ _, .none]) :: (dx, _) :: l')
          k_extra "st!"
      · have hc' : ¬ c.r.take y.cps.toList.length = y.cps.toList := of_decide_eq_false hc
        rw [if_neg hc'] at h1
        k_extra "w"
        refine' ⟨_, ⟨h1, _, ?m1, rfl⟩, trivial, ?st⟩
        rotate_left 2
        case st => k_extra "st!"
        case m1 => k_extra "nm"
    case done =>
      rintro s6 l6 ⟨h1, m, m1, rfl⟩ S6
      have hlen : SIGNSL.length = vs.length := by rw [← hv2]; simp
      rw [← hlen, List.drop_length] at h1
      rw [restS, h1] at e1
      k_extra "w"
      exact (err.body hi rfl).raise (by assumption) ⟨_, by k_extra "ext"⟩ ⟨0, e1.symm, rfl⟩
end
structure Nx where
  n0 : Nat
  n : Nat
  kind : List Nat
  text : List Nat
  vl : Vl
  ms : List (List Nat)
noncomputable def noteN (ms : List (List Nat)) (kind text : List Nat) (e : Bool) : Option (List (List Nat)) := noteS ms ⟨kind, text, 0, .none, false⟩ e
noncomputable def nextK (ms : List (List Nat)) (e : Bool) (r : List Nat) (n0 : Nat) : Res (Nat × List Nat × Vl) → Res Nx
  | .un => .un
  | .err n => .err (n0 + n)
  | .ok (n, kind, vl) => match noteN ms kind ((r.drop n0).take n) e with
    | none => .err n0
    | some ms' => if 100000 < ms'.length then .un else .ok ⟨n0, n0 + n, kind, (r.drop n0).take n, vl, ms'⟩
noncomputable def nextG (put : List Nat → Res (Nat × List Nat)) (ms : List (List Nat)) (e : Bool) (r : List Nat) : Res Nx :=
  match blkF (!countsL ms) r with
  | .error n => .err n
  | .ok n0 => nextK ms e r n0 (kvS put ms (r.drop n0))
noncomputable def endsN (kind text : List Nat) : Bool := endsOp ⟨kind, text, 0, .none, false⟩
theorem mid4 {α} (p : List α) {a b c d : α} {X : List α} : (p ++ a :: b :: c :: d :: X).Perm (a :: b :: c :: d :: (p ++ X)) :=
  List.perm_middle.trans (.cons _ (List.perm_middle.trans (.cons _ (List.perm_middle.trans (.cons _ List.perm_middle)))))
theorem Ext.app (p : Led) {X : Led} : Ext (p ++ X) X := by
  induction p with
  | nil => exact .all
  | cons a p ih => exact .drop ih
section
variable {prog : Program} {w : World} {A : Around} {E : Value → Shared → Prop} {b : Bs} {s : Shared} {l l1 l' : Led} {x dx : Addr} {c : Sc} {Q : Value → Shared → Prop} {R : Nat} {d : Int} {put : List Nat → Res (Nat × List Nat)} {ms : List (List Nat)} {e : Bool}
theorem next_c {args : List Value} (X : Wd (KK w) b) (hput : PutC prog w b R d put) (S : St b s l) (D : Del l dx (scD c) l1) (D2 : Del l1 c.ml (mk ms) l') (G0 : (x, inst 289 dx) ∈ l') (hl : c.tl.length ≤ 1048576) (hz : ms.length ≤ 1048576) (hL : LastIs l' c.last e) (hi : Hi A l') (hrp : Room A (R + 3)) (hr : Room A 13) (ha : args = [.ref x])
    (hn : c.nested + d ≤ 12) (hu : nextG put ms e c.r ≠ .un) (err : Lets b l' (fun sp => ∃ n, nextG put ms e c.r = .err n ∧ sp = (c.go n).spot) E)
    (h : ∀ (o : Nx) (vx : Vx) wx wd sp t1 t2 s', nextG put ms e c.r = .ok o → o.vl = vx.sp →
      St b s' ((wx, inst 126 wd) :: (wd, wrD ⟨o.kind, o.text, sp, vx.v, decide (0 < o.n0)⟩) :: (sp, tup [.int (c.go o.n0).spot.1 t1, .int (c.go o.n0).spot.2 t2]) :: (c.ml, mk o.ms) :: (dx, scD { c.go o.n with last := .ref wx }) :: (vx.led ++ l')) → Q (.ref wx) s') : wpAny (model prog w) A (call (.ref 223) args) Q E s := by
  subst ha
  have S0 : St b s ((dx, scD c) :: (c.ml, mk ms) :: l') := S.ext (.cons D (.cons D2 .all))
  clear S D D2
  have hh := hi.hh
  generalize e0 : nextG put ms e c.r = z at hu err h
  rw [nextG] at e0
  k_extra "enter"
  rename_i L S1
  k_extra "w"
  refine' blanks_c (by assumption) (by assumption) ?d ?g ?g3 hl ?hi ?rr rfl ?err ?_
  case d => k_extra "del"
  case g => k_extra "mem"
  case g3 => k_extra "mem"
  case hi => k_extra "hi"
  case rr => exact Room.deep hr (by decide)
  case err =>
    k_extra "er0"
    rintro sp ⟨n, q, rfl⟩
    rw [q] at e0
    exact ⟨n, e0.symm, rfl⟩
  intro n0 s2 q0 S2
  rw [q0] at e0
  replace e0 : nextK ms e c.r n0 (kvS put ms (c.r.drop n0)) = z := e0
  have hlk : (c.go n0).tl.length ≤ 1048576 := by rw [go_tl]; exact hl
  k_extra "w"
  have hsp : (c.go n0).spot = (((c.go n0).line : Int), ((c.go n0).at_ : Int) - (c.go n0).ls + 1) := rfl
  have hgr : (c.go n0).r = c.r.drop n0 := go_r c n0
  refine' kv_c (ms := ms) (by assumption) hput (by assumption) ?d ?g ?g3 hlk hz ?hi ?rp ?rr rfl ?nn ?hu ?err ?_
  case d => k_extra "del"
  case g => k_extra "mem"
  case g3 => rw [go_ml]; k_extra "mem"
  case hi => k_extra "hi"
  case rp => exact Room.deep hrp (Nat.le_refl _)
  case rr => exact Room.deep hr (by decide)
  case nn => rw [go_nested]; exact hn
  case hu => rw [hgr]; intro q; rw [q] at e0; exact hu e0.symm
  case err =>
    k_extra "er0"
    rintro sp ⟨n, q, rfl⟩
    rw [hgr] at q
    rw [q] at e0
    exact ⟨n0 + n, e0.symm, by rw [go_add]⟩
  intro n kind vx t u s5 q S5
  rw [hgr] at q
  rw [q, nextK] at e0
  rw [go_add] at S5
  have S6 : St b s5 _ := S5.perm (.cons _ (.cons _ (mid4 vx.led)))
  clear S5
  have G0' : (x, inst 289 dx) ∈ vx.led ++ l' := List.mem_append_right _ G0
  have hi' : Hi A (vx.led ++ l') := hi.mono fun p hp => List.mem_append_right _ hp
  have hL' : LastIs (vx.led ++ l') c.last e := hL.mono fun p hp => List.mem_append_right _ hp
  have err' := err.mono (Ext.app vx.led) (fun _ h => h)
  clear hi hL err G0
  have hlk2 : (c.go (n0 + n)).tl.length ≤ 1048576 := by rw [go_tl]; exact hl
  k_extra "w"
  refine' r_slice (i := (c.go n0).at_) (j := (c.go (n0 + n)).at_) (by assumption) rfl rfl (by rw [go_at, go_at]; omega) hlk2 ?_
  rw [go_tl, go_at, go_at, show c.at_ + (n0 + n) - (c.at_ + n0) = n by omega, show (c.tl.drop (c.at_ + n0)) = c.r.drop n0 by unfold Sc.r; rw [List.drop_drop]]
  change ∀ u s', St b s' _ → _
  intro ut s7 S7
  k_extra "w"
  generalize hT : (c.r.drop n0).take n = tx0 at *
  refine' word_c (by assumption) (by assumption) ?rw rfl ?_
  case rw => exact Room.deep hr (by decide)
  intro wx wd s8 S8
  k_extra "w"
  refine' note_c (ms := ms) (e := e) (c := c.go (n0 + n)) (wd := wd) (k := ⟨kind, tx0, _, vx.v, _⟩) (by assumption) (by assumption) ?dd ?w3 ?gg ?g2 ?w1 ?w2 ?hL ?hi hz ?rr rfl ?err ?_
  rotate_left
  case dd => rw [go_ml]; k_extra "del"
  rotate_left
  case w3 => k_extra "del"
  case w2 => k_extra "mem"
  case gg => k_extra "mem"
  case g2 => k_extra "mem"
  case w1 => k_extra "mem"
  case hL => rw [go_last]; exact hL'.mono (Ext.mem (by k_extra "ext"))
  case hi => k_extra "hi"
  case rr => exact Room.deep hr (by decide)
  case err =>
    k_extra "er0"
    rintro sp ⟨q, rfl⟩
    have q' : noteN ms kind tx0 e = none := q
    rw [q'] at e0
    exact ⟨n0, e0.symm, by unfold Sc.spot; rw [go_at]⟩
  rintro ms' s9 hms S9
  have q' : noteN ms kind tx0 e = some ms' := hms
  rw [q'] at e0
  rw [go_ml] at S9
  k_extra "w"
  have hm : ¬ 100000 < ms'.length := fun q => hu (by rw [← e0]; exact if_pos q)
  have e1 : z = .ok ⟨n0, n0 + n, kind, tx0, vx.sp, ms'⟩ := by rw [← e0]; exact if_neg hm
  have hsp2 : (c.go n0).spot = (((c.go n0).line : Int), ((c.at_ + n0 : Nat) : Int) - (c.go n0).ls + 1) := by unfold Sc.spot; rw [go_at]
  refine' h _ vx wx wd _ _ _ _ e1 rfl ?st
  case st =>
    simp only [hsp2]
    k_extra "st!"
end
noncomputable def nmN : List Nat → Nat
  | [] => 0
  | a :: r => if nameSign [a] = true then nmN r + 1 else 0
theorem nameSign_nil : nameSign [] = false := by decide +kernel
theorem nmN_go {r : List Nat} (h : nameSign (r.take 1) = true) : nmN r = nmN (r.drop 1) + 1 := by
  cases r with
  | nil => rw [show ([] : List Nat).take 1 = [] from rfl, nameSign_nil] at h; cases h
  | cons a r => exact if_pos h
theorem nmN_stop {r : List Nat} (h : nameSign (r.take 1) = false) : nmN r = 0 := by
  cases r with
  | nil => rfl
  | cons a r => exact if_neg (by rw [show nameSign [a] = false from h]; decide)
noncomputable def innerL (nx : List (List Nat) → Bool → List Nat → Res Nx) (r : List Nat) : Nat → Nat → List (List Nat) → Bool → Res Nat
  | 0, _, _, _ => .un
  | f + 1, n, ms, e => if ms = [] then .ok n else (match nx ms e (r.drop n) with
    | .un => .un
    | .err k => .err (n + k)
    | .ok o => if o.kind = T "end" then .err 0 else innerL nx r f (n + o.n) o.ms (endsN o.kind o.text))
noncomputable def innerS (nx : List (List Nat) → Bool → List Nat → Res Nx) (r : List Nat) : Res Nat := match nx [] false r with
  | .un => .un
  | .err k => .err k
  | .ok o => innerL nx r (r.length + 1) o.n o.ms (endsN o.kind o.text)
noncomputable def putEnd (r : List Nat) : Res Nat → Res (Nat × List Nat)
  | .un => .un
  | .err k => .err (1 + k)
  | .ok n => if n < 2 then .un else .ok (1 + n, (r.drop 2).take (n - 2))
noncomputable def putS (nx : List (List Nat) → Bool → List Nat → Res Nx) (r : List Nat) : Res (Nat × List Nat) :=
  if nameStart ((r.drop 1).take 1) = true then .ok (1 + nmN (r.drop 1), (r.drop 1).take (nmN (r.drop 1)))
  else if (r.drop 1).take 1 = T "(" then putEnd r (innerS nx (r.drop 1))
  else .err 1
noncomputable def NextC (prog : Program) (w : World) (b : Bs) (R : Nat) (d : Int) (nx : List (List Nat) → Bool → List Nat → Res Nx) : Prop :=
  ∀ {A : Around} {E : Value → Shared → Prop} {s : Shared} {l l1 l' : Led} {x dx : Addr} {c : Sc} {Q : Value → Shared → Prop} {args : List Value} {ms : List (List Nat)} {e : Bool}, St b s l → Del l dx (scD c) l1 → Del l1 c.ml (mk ms) l' → (x, inst 289 dx) ∈ l' → c.tl.length ≤ 1048576 → ms.length ≤ 1048576 →
    LastIs l' c.last e → Hi A l' → Room A R → args = [.ref x] → c.nested + d ≤ 12 → nx ms e c.r ≠ .un → Lets b l' (fun sp => ∃ n, nx ms e c.r = .err n ∧ sp = (c.go n).spot) E →
    (∀ (o : Nx) (vx : Vx) wx wd sp t1 t2 s', nx ms e c.r = .ok o → o.vl = vx.sp → o.ms.length ≤ 100000 →
      St b s' ((wx, inst 126 wd) :: (wd, wrD ⟨o.kind, o.text, sp, vx.v, decide (0 < o.n0)⟩) :: (sp, tup [.int (c.go o.n0).spot.1 t1, .int (c.go o.n0).spot.2 t2]) :: (c.ml, mk o.ms) :: (dx, scD { c.go o.n with last := .ref wx }) :: (vx.led ++ l')) → Q (.ref wx) s') → wpAny (model prog w) A (call (.ref 223) args) Q E s
theorem nextG_ms {put : List Nat → Res (Nat × List Nat)} {ms : List (List Nat)} {e : Bool} {r : List Nat} {o : Nx} (h : nextG put ms e r = .ok o) : o.ms.length ≤ 100000 := by
  unfold nextG at h
  split at h
  · cases h
  · rename_i n0 _
    cases hk : kvS put ms (r.drop n0) with
    | un => rw [hk] at h; cases h
    | err n => rw [hk] at h; cases h
    | ok z =>
      obtain ⟨n, kind, vl⟩ := z
      rw [hk] at h
      dsimp only [nextK] at h
      split at h
      · cases h
      · split at h
        · cases h
        · cases h; dsimp only; omega
theorem nextC_of {prog : Program} {w : World} {b : Bs} {R : Nat} {d : Int} {put : List Nat → Res (Nat × List Nat)} (X : Wd (KK w) b) (hR : 10 ≤ R) (hput : PutC prog w b R d put) : NextC prog w b (R + 3) d (nextG put) :=
  fun S D D2 G0 hl hz hL hi hr ha hn hu err h => next_c X hput S D D2 G0 hl hz hL hi hr (hr.mono (by omega)) ha hn hu err fun o vx wx wd sp t1 t2 s' e1 e2 S' => h o vx wx wd sp t1 t2 s' e1 e2 (nextG_ms e1) S'
/-- the same text, other marks -/
noncomputable abbrev Sc.as (c : Sc) (k : Int) (ml : Addr) (v : Value) : Sc := { c with nested := k, ml := ml, last := v }
theorem as_step (c : Sc) (k : Int) (ml : Addr) (v : Value) : (c.as k ml v).step = c.step.as k ml v := by
  have e : sg (c.as k ml v) 0 = sg c 0 := rfl
  unfold Sc.step
  rw [e]
  split <;> rfl
theorem as_go (c : Sc) (k : Int) (ml : Addr) (v : Value) (n : Nat) : (c.as k ml v).go n = (c.go n).as k ml v := by
  induction n with
  | zero => rfl
  | succ n ih => show ((c.as k ml v).go n).step = _; rw [ih, as_step]; rfl
theorem as_spot (c : Sc) (k : Int) (ml : Addr) (v : Value) : (c.as k ml v).spot = c.spot := rfl
theorem as_r (c : Sc) (k : Int) (ml : Addr) (v : Value) : (c.as k ml v).r = c.r := rfl
theorem go_back (c : Sc) (m n : Nat) : { c.go m with at_ := (c.go n).at_, line := (c.go n).line, ls := (c.go n).ls } = c.go n := by
  have h1 := go_tl c m; have h2 := go_tl c n; have h3 := go_ml c m; have h4 := go_ml c n
  have h5 := go_last c m; have h6 := go_last c n; have h7 := go_nested c m; have h8 := go_nested c n
  cases hm : c.go m; cases hn : c.go n
  rw [hm] at h1 h3 h5 h7
  rw [hn] at h2 h4 h6 h8
  simp only at h1 h2 h3 h4 h5 h6 h7 h8 ⊢
  rw [h1, h2, h3, h4, h5, h6, h7, h8]
inductive PnP (b : Bs) (l' : Led) (L x dx : Addr) (c : Sc) (s : Shared) : Prop
  | mk (m : Str → Option Value) (u : Tok)
    (h1 : m "self" = some (.ref x) ∧ m "begun" = some (.int c.step.at_ u))
    (h2 : St b s ((L, fr m) :: (dx, scD (c.go (1 + nmN (c.r.drop 1)))) :: l'))
inductive PnI (b : Bs) (l' : Led) (L x dx : Addr) (c : Sc) (n : Nat) (s : Shared) : Prop
  | mk (j : Nat) (m : Str → Option Value) (u : Tok)
    (h1 : nmN (c.r.drop 1) = j + n ∧ nmN (c.r.drop (1 + j)) = n)
    (h2 : m "self" = some (.ref x) ∧ m "begun" = some (.int c.step.at_ u))
    (h3 : St b s ((L, fr m) :: (dx, scD (c.go (1 + j))) :: l'))
inductive PiP (b : Bs) (l' : Led) (L x dx : Addr) (c : Sc) (z : Res (Nat × List Nat)) (ix idx iml : Addr) (s : Shared) : Prop
  | mk (k : Nat) (m : Str → Option Value) (u : Tok) (v : Value)
    (h1 : z = putEnd c.r (.ok k))
    (h2 : m "self" = some (.ref x) ∧ m "begun" = some (.int c.step.at_ u) ∧ m "inner" = some (.ref ix))
    (h3 : St b s ((L, fr m) :: (dx, scD c.step) :: (ix, inst 289 idx) :: (idx, scD ((c.go (1 + k)).as (c.step.nested + 1) iml v)) :: l'))
inductive PiI (b : Bs) (l' : Led) (L x dx : Addr) (c : Sc) (nx : List (List Nat) → Bool → List Nat → Res Nx) (z : Res (Nat × List Nat)) (ix idx iml : Addr) (n : Nat) (s : Shared) : Prop
  | mk (k : Nat) (ms : List (List Nat)) (wx wd : Addr) (kw : Wrd) (m : Str → Option Value) (u : Tok)
    (h1 : putEnd c.r (innerL nx (c.r.drop 1) n k ms (endsOp kw)) = z)
    (h2 : ms.length ≤ 100000)
    (h3 : m "self" = some (.ref x) ∧ m "begun" = some (.int c.step.at_ u) ∧ m "inner" = some (.ref ix))
    (h4 : St b s ((L, fr m) :: (dx, scD c.step) :: (ix, inst 289 idx) :: (idx, scD ((c.go (1 + k)).as (c.step.nested + 1) iml (.ref wx))) :: (iml, mk ms) :: (wx, inst 126 wd) :: (wd, wrD kw) :: l'))
section
variable {prog : Program} {w : World} {A : Around} {E : Value → Shared → Prop} {b : Bs} {s : Shared} {l l' : Led} {x dx : Addr} {c : Sc} {Q : Value → Shared → Prop} {R : Nat} {d : Int} {nx : List (List Nat) → Bool → List Nat → Res Nx}
theorem put_c {args : List Value} (X : Wd (KK w) b) (hd : 0 ≤ d) (hnx : NextC prog w b R d nx) (S : St b s l) (D : Del l dx (scD c) l') (G0 : (x, inst 289 dx) ∈ l') (hl : c.tl.length ≤ 1048576) (hi : Hi A l') (hrp : Room A (R + 1)) (hr : Room A 10) (ha : args = [.ref x])
    (hn : c.nested + (d + 1) ≤ 12) (hu : putS nx c.r ≠ .un) (err : Lets b l' (fun sp => ∃ n, putS nx c.r = .err n ∧ sp = (c.go n).spot) E)
    (h : ∀ n p t s', putS nx c.r = .ok (n, p) → St b s' ((dx, scD (c.go n)) :: l') → Q (.str (tx p) t) s') : wpAny (model prog w) A (call (.ref 286) args) Q E s := by
  subst ha
  have G2 := D.mem
  have G1 := D.up G0
  have hh := hi.hh
  generalize e0 : putS nx c.r = z at hu err h
  unfold putS at e0
  k_extra "enter"
  rename_i L S1
  k_extra "w"
  have hsg : sg c.step 0 = (c.r.drop 1).take 1 := go_sg c 1 0
  refine w_ite (fun hc => ?_) (fun hc => ?_)
  · have hc' : nameStart ((c.r.drop 1).take 1) = true := hsg ▸ hc
    rw [if_pos hc'] at e0
    k_extra "w"
    refine' r_whileP (PnP b l' L x dx c)
      (PnI b l' L x dx c) ?turn ?done (nmN (c.r.drop 1)) ?base
    case base =>
      refine' ⟨0, _, _, ⟨(Nat.zero_add _).symm, rfl⟩, ⟨?m1, ?m2⟩, ?st⟩
      case st =>
        change St b _ ((L, fr _) :: (dx, scD c.step) :: _)
        k_extra "st!"
      case m1 => k_extra "nm"
      case m2 => k_extra "nm"
    case turn =>
      rintro n s3 R Z hR ⟨j, m, u, ⟨h1, h2⟩, ⟨m1, m2⟩, S3⟩
      have hlk : (c.go (1 + j)).tl.length ≤ 1048576 := by rw [go_tl]; exact hl
      have hsg2 : sg (c.go (1 + j)) 0 = (c.r.drop (1 + j)).take 1 := go_sg c (1 + j) 0
      k_extra "w"
      refine w_ite (fun hd => ?_) (fun hd => ?_)
      · have hd' : nameSign ((c.r.drop (1 + j)).take 1) = true := hsg2 ▸ hd
        rw [nmN_go hd', List.drop_drop] at h2
        k_extra "w"
        refine' ⟨n - 1, by omega, j + 1, _, _, ⟨by omega, by rw [← h2]; rfl⟩, ⟨?m1, ?m2⟩, ?st⟩
        case st =>
          change St b _ ((L, fr _) :: (dx, scD (c.go (1 + j)).step) :: _)
          k_extra "st!"
        case m1 => k_extra "nm"
        case m2 => k_extra "nm"
      · have hd' : nameSign ((c.r.drop (1 + j)).take 1) = false := hsg2 ▸ hd
        rw [nmN_stop hd'] at h2
        have hj : nmN (c.r.drop 1) = j := by omega
        k_extra "w"
        refine' ⟨_, _, ⟨?m1, ?m2⟩, ?st⟩
        case st => rw [hj]; k_extra "st!"
        case m1 => k_extra "nm"
        case m2 => k_extra "nm"
    case done =>
      rintro s3 ⟨m, u, ⟨m1, m2⟩, S3⟩
      generalize hN : nmN (c.r.drop 1) = N at *
      have hlk : (c.go (1 + N)).tl.length ≤ 1048576 := by rw [go_tl]; exact hl
      k_extra "w"
      refine' r_slice (i := c.step.at_) (j := (c.go (1 + N)).at_) (by assumption) rfl rfl (by rw [go_at, step_at]; omega) hlk ?_
      rw [go_tl, go_at, step_at, show c.at_ + (1 + N) - (c.at_ + 1) = N by omega, show (c.tl.drop (c.at_ + 1)) = c.r.drop 1 by unfold Sc.r; rw [List.drop_drop]]
      change ∀ u s', St b s' _ → _
      intro ut s7 S7
      k_extra "w"
      exact h _ _ _ _ e0.symm (by k_extra "st!")
  · have hc' : ¬ nameStart ((c.r.drop 1).take 1) = true := fun q => by rw [← hsg, show nameStart (sg c.step 0) = false from hc] at q; cases q
    rw [if_neg hc'] at e0
    k_extra "w"
    refine w_ite (fun hf => ?_) (fun hf => ?_)
    · have hf' : ¬ (c.r.drop 1).take 1 = T "(" := hsg ▸ (nd_t hf : ¬ sg c.step 0 = T "(")
      rw [if_neg hf'] at e0
      k_extra "w"
      exact (err.body hi rfl).raise (by assumption) ⟨_, by k_extra "ext"⟩ ⟨1, e0.symm, rfl⟩
    · have hf' : (c.r.drop 1).take 1 = T "(" := hsg ▸ (nd_f hf : sg c.step 0 = T "(")
      rw [if_pos hf'] at e0
      k_extra "w"
      refine w_ite (fun q => ?_) (fun _ => ?_)
      · exfalso
        have := of_decide_eq_true q
        rw [step_nested] at this
        omega
      k_extra "w"
      refine' scanner_c (tl := c.step.tl) (i := c.step.nested + 1) (by assumption) (by assumption) ?rs ?as ?_
      rotate_left 2
      case rs => k_extra "room"
      case as => exact .inl rfl
      intro ix idx iml s5 S5
      k_extra "w"
      have hgr : c.step.r = c.r.drop 1 := go_r c 1
      have hgo : ∀ n, c.step.go n = c.go (1 + n) := fun n => go_add c 1 n
      rename Shared => s6
      obtain ⟨m, ub, m1, m2, m3, S6⟩ : ∃ m u, m "self" = some (.ref x) ∧ m "begun" = some (.int c.step.at_ u) ∧ m "inner" = some (.ref ix) ∧
          St b s6 ((L, fr m) :: (dx, scD c.step) :: (ix, inst 289 idx) :: (idx, scD (c.step.as (c.step.nested + 1) iml .none)) :: (iml, mk []) :: l') := by
        refine' ⟨_, _, ?m1, ?m2, ?m3, ?st⟩
        case st =>
          change St b _ ((L, fr _) :: (dx, scD c.step) :: (ix, inst 289 idx) :: (idx, scD ⟨c.step.tl, c.step.nested + 1, c.step.at_, c.step.line, c.step.ls, iml, .none⟩) :: (iml, mk []) :: l')
          k_extra "st!"
        case m1 => k_extra "nm"
        case m2 => k_extra "nm"
        case m3 => k_extra "nm"
      clear S5 S1
      refine' hnx (c := c.step.as (c.step.nested + 1) iml .none) (ms := []) (e := false) (by assumption) ?dd ?d2 ?gg (by show c.step.tl.length ≤ _; rw [step_tl]; exact hl) (by simp) (.inl ⟨rfl, rfl⟩) ?hi ?rr rfl ?nn ?hu ?err ?_
      rotate_left 2
      case dd => k_extra "del"
      rotate_left
      case d2 => exact .tail (.tail (.tail .head))
      case gg => k_extra "mem"
      case hi => k_extra "hi"
      case rr => exact Room.deep hrp (Nat.le_refl _)
      case nn => show c.step.nested + 1 + d ≤ 12; rw [step_nested]; omega
      case hu =>
        intro q
        rw [as_r, hgr] at q
        unfold innerS at e0
        rw [q] at e0
        exact hu e0.symm
      case err =>
        k_extra "er0"
        rintro sp ⟨n, q, rfl⟩
        rw [as_r, hgr] at q
        unfold innerS at e0
        rw [q] at e0
        exact ⟨1 + n, e0.symm, by rw [as_go, as_spot, hgo]⟩
      intro o vx wx wd sp t1 t2 s7 q qv qm S7
      rw [as_r, hgr] at q
      unfold innerS at e0
      rw [q] at e0
      replace e0 : putEnd c.r (innerL nx (c.r.drop 1) ((c.r.drop 1).length + 1) o.n o.ms (endsN o.kind o.text)) = z := e0
      simp only [as_go, hgo] at S7
      have S8 : St b s7 ((wx, inst 126 wd) :: (wd, wrD ⟨o.kind, o.text, sp, vx.v, decide (0 < o.n0)⟩) :: (iml, mk o.ms) :: (idx, scD ((c.go (1 + o.n)).as (c.step.nested + 1) iml (.ref wx))) :: (L, fr m) :: (dx, scD c.step) :: (ix, inst 289 idx) :: l') :=
        S7.ext (.cons .head (.cons .head (.drop (.cons .head (.cons .head (Ext.app _))))))
      clear S7 S6
      k_extra "w"
      refine' r_whileP (PiP b l' L x dx c z ix idx iml)
        (PiI b l' L x dx c nx z ix idx iml) ?turn ?done ((c.r.drop 1).length + 1) ?base
      case base =>
        refine' ⟨o.n, o.ms, wx, wd, ⟨o.kind, o.text, sp, vx.v, decide (0 < o.n0)⟩, m, _, e0, qm, ⟨m1, m2, m3⟩, ?st⟩
        case st => k_extra "st!"
      case turn =>
        clear e0 qm q qv S8 m1 m2 m3
        rintro n s9 R Z hR ⟨k, ms, wx, wd, kw, m, u, e0, qm, ⟨m1, m2, m3⟩, S9⟩
        cases n with
        | zero => exact absurd e0.symm hu
        | succ n =>
          unfold innerL at e0
          have hr2 : (c.go (1 + k)).r = (c.r.drop 1).drop k := by rw [go_r, List.drop_drop]
          k_extra "w"
          refine w_ite (fun hd => ?_) (fun hd => ?_)
          · have hd' : ¬ ms = [] := nd_t hd
            rw [if_neg hd'] at e0
            k_extra "w"
            refine' hnx (c := (c.go (1 + k)).as (c.step.nested + 1) iml (.ref wx)) (ms := ms) (e := endsOp kw) (by assumption) ?dd ?d2 ?gg (by show (c.go (1 + k)).tl.length ≤ _; rw [go_tl]; exact hl) (by omega) ?hL ?hi ?rr rfl ?nn ?hu ?err ?_
            rotate_left 2
            case dd => k_extra "del"
            rotate_left
            case d2 => k_extra "del"
            case gg => k_extra "mem"
            case hL => exact .inr ⟨wx, wd, kw, rfl, by k_extra "mem", by k_extra "mem", rfl⟩
            case hi => k_extra "hi"
            case rr => exact Room.deep hrp (Nat.le_refl _)
            case nn => show c.step.nested + 1 + d ≤ 12; rw [step_nested]; omega
            case hu =>
              intro q
              rw [as_r, hr2] at q
              rw [q] at e0
              exact hu e0.symm
            case err =>
              k_extra "er1"
              rintro sp ⟨n', q, rfl⟩
              rw [as_r, hr2] at q
              rw [q] at e0
              exact ⟨1 + (k + n'), e0.symm, by rw [as_go, as_spot, go_add, Nat.add_assoc]⟩
            intro o vx wx' wd' sp t1 t2 s10 q qv qm S10
            rw [as_r, hr2] at q
            rw [q] at e0
            replace e0 : putEnd c.r (if o.kind = T "end" then .err 0 else innerL nx (c.r.drop 1) n (k + o.n) o.ms (endsN o.kind o.text)) = z := e0
            simp only [as_go, go_add] at S10
            have S11 : St b s10 ((wx', inst 126 wd') :: (wd', wrD ⟨o.kind, o.text, sp, vx.v, decide (0 < o.n0)⟩) :: (iml, mk o.ms) :: (idx, scD ((c.go (1 + k + o.n)).as (c.step.nested + 1) iml (.ref wx'))) :: _) :=
              S10.ext (.cons .head (.cons .head (.drop (.cons .head (.cons .head (Ext.app _))))))
            clear S10
            k_extra "w"
            refine w_ite (fun hg => ?_) (fun hg => ?_)
            · have hg' : o.kind = T "end" := of_decide_eq_true hg
              rw [if_pos hg'] at e0
              k_extra "w"
              exact ((err.body hi rfl).loop (Hb.of hi rfl)).raise (by assumption) ⟨_, by k_extra "ext"⟩ ⟨1, e0.symm, rfl⟩
            · have hg' : ¬ o.kind = T "end" := of_decide_eq_false hg
              rw [if_neg hg'] at e0
              k_extra "w"
              refine' ⟨n, Nat.lt_succ_self _, k + o.n, o.ms, wx', wd', ⟨o.kind, o.text, sp, vx.v, decide (0 < o.n0)⟩, m, u, e0, qm, ⟨m1, m2, m3⟩, ?st⟩
              case st => rw [← Nat.add_assoc]; k_extra "st!"
          · have hd' : ms = [] := nd_f hd
            rw [if_pos hd'] at e0
            k_extra "w"
            exact ⟨k, m, u, _, e0.symm, ⟨m1, m2, m3⟩, by k_extra "st!"⟩
      case done =>
        rintro s9 ⟨k, m, u, v, e0, ⟨m1, m2, m3⟩, S9⟩
        have hk2 : ¬ k < 2 := fun q => hu (by rw [e0]; exact if_pos q)
        have e1 : z = .ok (1 + k, (c.r.drop 2).take (k - 2)) := by rw [e0]; exact if_neg hk2
        have ha1 : (c.go (1 + k)).at_ = c.at_ + (1 + k) := go_at c (1 + k)
        have ha2 : c.step.at_ = c.at_ + 1 := step_at c
        k_extra "w"
        refine' r_slice (l₀ := c.step.tl) (i := c.at_ + 2) (j := c.at_ + k) (by assumption) ?sx ?sy (by omega) ?sl ?_
        case sl => rw [step_tl]; exact hl
        case sx => rw [ha2]; rfl
        case sy => show ((c.go (1 + k)).at_ : Int) - 1 = _; rw [ha1]; omega
        rw [show c.at_ + k - (c.at_ + 2) = k - 2 by omega, show (c.step.tl.drop (c.at_ + 2)) = c.r.drop 2 by rw [step_tl]; unfold Sc.r; rw [List.drop_drop]]
        change ∀ u s', St b s' _ → _
        intro ut s10 S10
        k_extra "w"
        refine' h (1 + k) _ _ _ e1 ?st
        case st =>
          rw [← go_back c 1 (1 + k)]
          change St b _ ((dx, scD { c.step with at_ := ((c.go (1 + k)).as (c.step.nested + 1) iml v).at_, line := ((c.go (1 + k)).as (c.step.nested + 1) iml v).line, ls := ((c.go (1 + k)).as (c.step.nested + 1) iml v).ls }) :: l')
          k_extra "st!"
end
noncomputable def putD : Nat → List Nat → Res (Nat × List Nat)
  | 0 => fun _ => .un
  | d + 1 => putS (nextG (putD d))
theorem putC_all {prog : Program} {w : World} {b : Bs} (X : Wd (KK w) b) : ∀ d : Nat, PutC prog w b (10 + 4 * d) d (putD d)
  | 0 => fun _ _ _ _ _ _ _ _ hu _ _ => absurd rfl hu
  | d + 1 => fun S D G0 hl hi hr ha hn hu err h => put_c X (d := (d : Int)) (by omega) (nextC_of X (by omega) (putC_all X d)) S D G0 hl hi (hr.mono (by omega)) (hr.mono (by omega)) ha (by push_cast at hn; exact hn) hu err h
structure WRow where
  kind : List Nat
  text : List Nat
  off : Nat
  vl : Vl
  blank : Bool
/-- a word as it lies -/
structure Wc where
  wx : Addr
  wd : Addr
  sp : Addr
  vx : Vx
  kind : List Nat
  text : List Nat
  off : Nat
  blank : Bool
  t1 : Tok
  t2 : Tok
noncomputable def Wc.row (w : Wc) : WRow := ⟨w.kind, w.text, w.off, w.vx.sp, w.blank⟩
noncomputable abbrev Wc.wrd (w : Wc) : Wrd := ⟨w.kind, w.text, w.sp, w.vx.v, w.blank⟩
noncomputable def spotT (tl : List Nat) (n : Nat) : Int × Int := ((Sc.mk tl 0 0 1 0 0 .none).go n).spot
theorem spotT_eq (tl : List Nat) (k : Int) (ml : Addr) (v : Value) (n : Nat) : ((Sc.mk tl k 0 1 0 ml v).go n).spot = spotT tl n := by
  have : Sc.mk tl k 0 1 0 ml v = (Sc.mk tl 0 0 1 0 0 .none).as k ml v := rfl
  rw [this, as_go, as_spot]; rfl
noncomputable def wsL (tl : List Nat) : List Wc → Led → Led
  | [], l => l
  | w :: r, l => (w.wx, inst 126 w.wd) :: (w.wd, wrD w.wrd) :: (w.sp, tup [.int (spotT tl w.off).1 w.t1, .int (spotT tl w.off).2 w.t2]) :: (w.vx.led ++ wsL tl r l)
noncomputable def wordsL (nx : List (List Nat) → Bool → List Nat → Res Nx) (r : List Nat) : Nat → Nat → List (List Nat) → WRow → List WRow → Res (List WRow)
  | 0, _, _, _, _ => .un
  | f + 1, n, ms, w, acc => if w.kind = T "end" then (if ms = [] then .ok (acc ++ [w]) else .err w.off)
    else if 100000 < acc.length then .un
    else (match nx ms (endsN w.kind w.text) (r.drop n) with
      | .un => .un
      | .err k => .err (n + k)
      | .ok o => wordsL nx r f (n + o.n) o.ms ⟨o.kind, o.text, n + o.n0, o.vl, decide (0 < o.n0)⟩ (acc ++ [w]))
noncomputable def wordsS (nx : List (List Nat) → Bool → List Nat → Res Nx) (r : List Nat) : Res (List WRow) := match nx [] false r with
  | .un => .un
  | .err k => .err k
  | .ok o => wordsL nx r (r.length + 1000) o.n o.ms ⟨o.kind, o.text, o.n0, o.vl, decide (0 < o.n0)⟩ []
theorem mid2 {α} (p : List α) {a b : α} {X : List α} : (p ++ a :: b :: X).Perm (a :: b :: (p ++ X)) :=
  List.perm_middle.trans (.cons _ List.perm_middle)
theorem mid3 {α} (p : List α) {a b c : α} {X : List α} : (p ++ a :: b :: c :: X).Perm (a :: b :: c :: (p ++ X)) :=
  List.perm_middle.trans (.cons _ (List.perm_middle.trans (.cons _ List.perm_middle)))
theorem Ext.pre (p : Led) {X Y : Led} (h : Ext X Y) : Ext (p ++ X) Y := by
  induction p with
  | nil => exact h
  | cons a p ih => exact .drop ih
theorem wsL_ext {tl : List Nat} {l : Led} : ∀ ws : List Wc, Ext (wsL tl ws l) l
  | [] => .all
  | w :: r => .drop (.drop (.drop (Ext.pre _ (wsL_ext r))))
inductive WdP (b : Bs) (l : Led) (L x dx ml : Addr) (tl : List Nat) (z : Res (List WRow)) (s : Shared) : Prop
  | mk (ms : List (List Nat)) (w : Wc) (rs : List Wc) (m : Str → Option Value) (fo : Addr)
    (h1 : z = (if ms = [] then .ok ((rs.reverse ++ [w]).map Wc.row) else .err w.off))
    (h2 : m "scanner" = some (.ref x) ∧ m "found" = some (.ref fo))
    (h3 : ∃ sc, sc.ml = ml ∧ St b s ((L, fr m) :: (fo, lst (rs.reverse.map (fun w => Value.ref w.wx) ++ [.ref w.wx])) :: (x, inst 289 dx) :: (dx, scD sc) :: (ml, mk ms) :: wsL tl (w :: rs) l))
inductive WdI (b : Bs) (l : Led) (L x dx ml : Addr) (tl : List Nat) (z : Res (List WRow)) (nx : List (List Nat) → Bool → List Nat → Res Nx) (n : Nat) (s : Shared) : Prop
  | mk (k : Nat) (ms : List (List Nat)) (w : Wc) (rs : List Wc) (m : Str → Option Value) (fo : Addr)
    (h1 : wordsL nx tl n k ms w.row (rs.reverse.map Wc.row) = z)
    (h2 : ms.length ≤ 100000)
    (h3 : m "scanner" = some (.ref x) ∧ m "found" = some (.ref fo))
    (h4 : St b s ((L, fr m) :: (fo, lst (rs.reverse.map (fun w => Value.ref w.wx) ++ [.ref w.wx])) :: (x, inst 289 dx) :: (dx, scD (((Sc.mk tl 0 0 1 0 ml .none).go k).as 0 ml (.ref w.wx))) :: (ml, mk ms) :: wsL tl (w :: rs) l))
section
variable {prog : Program} {w : World} {A : Around} {E : Value → Shared → Prop} {b : Bs} {s : Shared} {l : Led} {Q : Value → Shared → Prop} {R : Nat} {nx : List (List Nat) → Bool → List Nat → Res Nx} {tl : List Nat} {t : Tok}
theorem words_c {args : List Value} (X : Wd (KK w) b) (hnx : NextC prog w b R 1 nx) (S : St b s l) (hl : tl.length ≤ 1048576) (hi : Hi A l) (hrp : Room A (R + 1)) (hr : Room A 10) (ha : args = [.str (tx tl) t])
    (hu : wordsS nx tl ≠ .un) (err : Lets b l (fun sp => ∃ n, wordsS nx tl = .err n ∧ sp = spotT tl n) E)
    (h : ∀ fo (w : Wc) (rs : List Wc) s', wordsS nx tl = .ok ((rs.reverse ++ [w]).map Wc.row) → St b s' ((fo, lst (rs.reverse.map (fun w => .ref w.wx) ++ [.ref w.wx])) :: wsL tl (w :: rs) l) → Q (.ref fo) s') : wpAny (model prog w) A (call (.ref 300) args) Q E s := by
  subst ha
  have hh := hi.hh
  generalize e0 : wordsS nx tl = z at hu err h
  unfold wordsS at e0
  k_extra "enter"
  rename_i L S1
  k_extra "w"
  refine' scanner_c (tl := tl) (i := 0) (by assumption) (by assumption) ?rs ?as ?_
  rotate_left 2
  case rs => k_extra "room"
  case as => exact .inr ⟨rfl, rfl, rfl⟩
  intro x dx ml s5 S5
  k_extra "w"
  refine' hnx (c := ⟨tl, 0, 0, 1, 0, ml, .none⟩) (ms := []) (e := false) (by assumption) ?dd ?d2 ?gg hl (by simp) (.inl ⟨rfl, rfl⟩) ?hi ?rr rfl ?nn ?hu ?err ?_
  rotate_left 2
  case dd => k_extra "del"
  rotate_left
  case d2 => k_extra "del"
  case gg => k_extra "mem"
  case hi => k_extra "hi"
  case rr => exact Room.deep hrp (Nat.le_refl _)
  case nn => show (0 : Int) + 1 ≤ 12; decide
  case hu =>
    intro q
    have q' : nx [] false tl = .un := q
    rw [q'] at e0
    exact hu e0.symm
  case err =>
    k_extra "er0"
    rintro sp ⟨n, q, rfl⟩
    have q' : nx [] false tl = .err n := q
    rw [q'] at e0
    exact ⟨n, e0.symm, spotT_eq ..⟩
  intro o vx wx wd sp t1 t2 s7 q qv qm S7
  have q' : nx [] false tl = .ok o := q
  rw [q'] at e0
  rw [spotT_eq] at S7
  replace e0 : wordsL nx tl (tl.length + 1000) o.n o.ms ⟨o.kind, o.text, o.n0, o.vl, decide (0 < o.n0)⟩ [] = z := e0
  have S8 : St b s7 ((wx, inst 126 wd) :: (wd, wrD ⟨o.kind, o.text, sp, vx.v, decide (0 < o.n0)⟩) :: (sp, tup [.int (spotT tl o.n0).1 t1, .int (spotT tl o.n0).2 t2]) :: (ml, mk o.ms) :: (dx, scD (((Sc.mk tl 0 0 1 0 ml .none).go o.n).as 0 ml (.ref wx))) :: _) :=
    (S7.perm (.cons _ (.cons _ (.cons _ (.cons _ (.cons _ (mid2 vx.led))))))).ext (.cons .head (.cons .head (.cons .head (.cons .head (by
      have e : ((Sc.mk tl 0 0 1 0 ml .none).go o.n).as 0 ml (.ref wx) = { (Sc.mk tl 0 0 1 0 ml .none).go o.n with last := .ref wx } := by
        have h1 := go_nested (Sc.mk tl 0 0 1 0 ml .none) o.n
        have h2 := go_ml (Sc.mk tl 0 0 1 0 ml .none) o.n
        cases hc : (Sc.mk tl 0 0 1 0 ml .none).go o.n
        rw [hc] at h1 h2
        dsimp only at h1 h2
        rw [h1, h2]
      rw [e]; exact .all)))))
  clear S7 S5
  k_extra "w"
  refine' r_whileP (WdP b l L x dx ml tl z)
    (WdI b l L x dx ml tl z nx) ?turn ?done (tl.length + 1000) ?base
  case base =>
    refine' ⟨o.n, o.ms, ⟨wx, wd, sp, vx, o.kind, o.text, o.n0, decide (0 < o.n0), t1, t2⟩, [], _, _, ?e, qm, ⟨?m1, ?m2⟩, ?st⟩
    case st =>
      change St b _ ((L, fr _) :: (_, lst [.ref wx]) :: (x, inst 289 dx) :: (dx, scD _) :: (ml, mk o.ms) :: (wx, inst 126 wd) :: (wd, wrD ⟨o.kind, o.text, sp, vx.v, decide (0 < o.n0)⟩) :: (sp, tup [.int (spotT tl o.n0).1 t1, .int (spotT tl o.n0).2 t2]) :: (vx.led ++ l))
      k_extra "st!"
    case m1 => k_extra "nm"
    case m2 => k_extra "nm"
    case e => rw [← e0]; show wordsL nx tl _ _ _ ⟨o.kind, o.text, o.n0, vx.sp, _⟩ _ = _; rw [qv]; rfl
  case turn =>
    clear e0 qm q q' qv S8
    rintro n s9 R Z hR ⟨k, ms, w, rs, m, fo, e0, qm, ⟨m1, m2⟩, S9⟩
    have S10 : St b s9 ((L, fr m) :: (fo, lst (rs.reverse.map (fun w => Value.ref w.wx) ++ [.ref w.wx])) :: (x, inst 289 dx) :: (dx, scD (((Sc.mk tl 0 0 1 0 ml .none).go k).as 0 ml (.ref w.wx))) :: (ml, mk ms) :: (w.wx, inst 126 w.wd) :: (w.wd, wrD w.wrd) :: (w.sp, tup [.int (spotT tl w.off).1 w.t1, .int (spotT tl w.off).2 w.t2]) :: (w.vx.led ++ wsL tl rs l)) := S9
    clear S9
    have xt : Ext (w.vx.led ++ wsL tl rs l) l := Ext.pre _ (wsL_ext rs)
    have hi' : Hi A (w.vx.led ++ wsL tl rs l) := hi.mono (Ext.mem xt)
    have err' := err.mono xt (fun _ h => h)
    clear hi err
    cases n with
    | zero => exact absurd e0.symm hu
    | succ n =>
      unfold wordsL at e0
      k_extra "w"
      refine w_ite (fun hc => ?_) (fun hc => ?_)
      · have hc' : ¬ w.kind = T "end" := nd_t hc
        replace e0 : (if w.kind = T "end" then (if ms = [] then .ok (rs.reverse.map Wc.row ++ [w.row]) else .err w.off) else if 100000 < (rs.reverse.map Wc.row).length then .un
          else (match nx ms (endsN w.kind w.text) (tl.drop k) with
            | .un => .un
            | .err j => .err (k + j)
            | .ok o => wordsL nx tl n (k + o.n) o.ms ⟨o.kind, o.text, k + o.n0, o.vl, decide (0 < o.n0)⟩ (rs.reverse.map Wc.row ++ [w.row]))) = z := e0
        rw [if_neg hc'] at e0
        have hsz : ¬ 100000 < (rs.reverse.map Wc.row).length := fun q => hu (by rw [← e0, if_pos q])
        rw [if_neg hsz] at e0
        have hz1 : (rs.reverse.map (fun w => Value.ref w.wx) ++ [Value.ref w.wx]).length ≤ 1048576 := by simp at hsz ⊢; omega
        have hr2 : ((Sc.mk tl 0 0 1 0 ml .none).go k).r = tl.drop k := go_r _ k
        k_extra "w"
        refine' hnx (c := ((Sc.mk tl 0 0 1 0 ml .none).go k).as 0 ml (.ref w.wx)) (ms := ms) (e := endsOp w.wrd) (by assumption) ?dd ?d2 ?gg (by show ((Sc.mk tl 0 0 1 0 ml .none).go k).tl.length ≤ _; rw [go_tl]; exact hl) (by omega) ?hL ?hi ?rr rfl ?nn ?huu ?errr ?_
        rotate_left 2
        case dd => k_extra "del"
        rotate_left
        case d2 => k_extra "del"
        case gg => k_extra "mem"
        case hL => exact .inr ⟨w.wx, w.wd, w.wrd, rfl, by k_extra "mem", by k_extra "mem", rfl⟩
        case hi => k_extra "hi"
        case rr => exact Room.deep hrp (Nat.le_refl _)
        case nn => show (0 : Int) + 1 ≤ 12; decide
        case huu =>
          intro q
          rw [as_r, hr2] at q
          have q' : nx ms (endsN w.kind w.text) (tl.drop k) = .un := q
          rw [q'] at e0
          exact hu e0.symm
        case errr =>
          k_extra "er1"
          rintro sp ⟨n', q, rfl⟩
          rw [as_r, hr2] at q
          have q' : nx ms (endsN w.kind w.text) (tl.drop k) = .err n' := q
          rw [q'] at e0
          exact ⟨k + n', e0.symm, by rw [as_go, as_spot, go_add]; exact spotT_eq ..⟩
        intro o vx wx wd sp t1 t2 s10 q qv qm S11
        rw [as_r, hr2] at q
        have q' : nx ms (endsN w.kind w.text) (tl.drop k) = .ok o := q
        rw [q'] at e0
        simp only [as_go, as_spot, go_add] at S11
        simp only [spotT_eq] at S11
        have S12 : St b s10 ((wx, inst 126 wd) :: (wd, wrD ⟨o.kind, o.text, sp, vx.v, decide (0 < o.n0)⟩) :: (sp, tup [.int (spotT tl (k + o.n0)).1 t1, .int (spotT tl (k + o.n0)).2 t2]) :: (ml, mk o.ms) :: (dx, scD (((Sc.mk tl 0 0 1 0 ml .none).go (k + o.n)).as 0 ml (.ref wx))) ::
          (L, fr m) :: (fo, lst (rs.reverse.map (fun w => Value.ref w.wx) ++ [.ref w.wx])) :: (x, inst 289 dx) :: (vx.led ++ wsL tl (w :: rs) l)) := S11.perm (.cons _ (.cons _ (.cons _ (.cons _ (.cons _ (mid3 vx.led))))))
        clear S11
        k_extra "w"
        refine' ⟨n, Nat.lt_succ_self _, k + o.n, o.ms, ⟨wx, wd, sp, vx, o.kind, o.text, k + o.n0, decide (0 < o.n0), t1, t2⟩, w :: rs, m, fo, ?ee, qm, ⟨m1, m2⟩, ?st⟩
        case st =>
          rw [show (w :: rs).reverse.map (fun w => Value.ref w.wx) = rs.reverse.map (fun w => Value.ref w.wx) ++ [.ref w.wx] by simp]
          change St b _ ((L, fr m) :: (fo, lst _) :: (x, inst 289 dx) :: (dx, scD (((Sc.mk tl 0 0 1 0 ml .none).go (k + o.n)).as 0 ml (.ref wx))) :: (ml, mk o.ms) :: (wx, inst 126 wd) :: (wd, wrD ⟨o.kind, o.text, sp, vx.v, decide (0 < o.n0)⟩) :: (sp, tup [.int (spotT tl (k + o.n0)).1 t1, .int (spotT tl (k + o.n0)).2 t2]) :: (vx.led ++ wsL tl (w :: rs) l))
          k_extra "st!"
        case ee =>
          rw [← e0]
          show wordsL nx tl _ _ _ ⟨o.kind, o.text, k + o.n0, vx.sp, _⟩ _ = wordsL nx tl n (k + o.n) o.ms ⟨o.kind, o.text, k + o.n0, o.vl, decide (0 < o.n0)⟩ (rs.reverse.map Wc.row ++ [w.row])
          rw [qv, show (w :: rs).reverse.map Wc.row = rs.reverse.map Wc.row ++ [w.row] by simp]
      · have hc' : w.kind = T "end" := nd_f hc
        replace e0 : (if w.kind = T "end" then (if ms = [] then .ok (rs.reverse.map Wc.row ++ [w.row]) else .err w.off) else _) = z := e0
        rw [if_pos hc'] at e0
        k_extra "w"
        exact ⟨ms, w, rs, m, fo, by rw [← e0, List.map_append]; rfl, ⟨m1, m2⟩, _, rfl, by k_extra "st!"⟩
  case done =>
    rintro s9 ⟨ms, w, rs, m, fo, e0, ⟨m1, m2⟩, sc, hsc, S9⟩
    subst hsc
    have S10 : St b s9 ((L, fr m) :: (fo, lst (rs.reverse.map (fun w => Value.ref w.wx) ++ [.ref w.wx])) :: (x, inst 289 dx) :: (dx, scD sc) :: (sc.ml, mk ms) :: (w.wx, inst 126 w.wd) :: (w.wd, wrD w.wrd) :: (w.sp, tup [.int (spotT tl w.off).1 w.t1, .int (spotT tl w.off).2 w.t2]) :: (w.vx.led ++ wsL tl rs l)) := S9
    clear S9
    have xt : Ext (w.vx.led ++ wsL tl rs l) l := Ext.pre _ (wsL_ext rs)
    have hi' : Hi A (w.vx.led ++ wsL tl rs l) := hi.mono (Ext.mem xt)
    have err' := err.mono xt (fun _ h => h)
    clear hi err
    k_extra "w"
    refine w_ite (fun hc => ?_) (fun hc => ?_)
    · have hc' : ¬ ms = [] := nd_t hc
      rw [if_neg hc'] at e0
      k_extra "w"
      exact (err'.body hi' rfl).raise (by assumption) ⟨_, by k_extra "ext"⟩ ⟨w.off, e0, rfl⟩
    · have hc' : ms = [] := nd_f hc
      rw [if_pos hc'] at e0
      k_extra "w"
      refine' h _ w rs _ e0 ?st
      case st =>
        change St b _ ((_, lst _) :: (w.wx, inst 126 w.wd) :: (w.wd, wrD w.wrd) :: (w.sp, tup [.int (spotT tl w.off).1 w.t1, .int (spotT tl w.off).2 w.t2]) :: (w.vx.led ++ wsL tl rs l))
        k_extra "st!"
end
/-- a list of which nothing but its items is told -/
noncomputable def ls2 (vs : List Value) : Cell := fun o => o.cls = .type "list" ∧ ∃ n, o.data = .seq vs.toArray n
theorem lst_ls2 {vs : List Value} {o : Obj} (h : lst vs o) : ls2 vs o := by obtain ⟨n, rfl⟩ := h; exact ⟨rfl, n, rfl⟩
section
variable {prog : Program} {w : World} {A : Around} {E : Value → Shared → Prop} {b : Bs} {s : Shared} {l l' : Led} {a : Addr} {vs : List Value} {u : Tok}
theorem ls2_at (S : St b s l) (G : (a, ls2 vs) ∈ l) : s.heap.IsList a vs.toArray := let ⟨o, ho, h1, h2⟩ := S.get G; ⟨o, ho, h1, h2⟩
theorem r_item2 {value slice : Expr} {k : Int} {j : Nat} {v : Value} {Q : Value → Shared → Prop} (S : St b s l) (G : (a, ls2 vs) ∈ l) (hk : k = (j : Int)) (hv : vs[j]? = some v) (hj : j < 1000) (h : Q v s)
    (hs : subscripted slice false (.ref a) (.int k u) = operate [.ref a, .int k u] (getItem (.ref a) (.int k u))) : wpAny (model prog w) A (subscriptTail value slice (.ref a) (.int k u)) Q E s := by
  subst hk
  exact tl_list ⟨_, ls2_at S G⟩ (wpAny_getItem_list (ls2_at S G) (by omega) (by omega) (by simpa using hv) h) hs
theorem r_itemL {value slice : Expr} {k : Int} {j : Nat} {v : Value} {Q : Value → Shared → Prop} (S : St b s l) (G : (a, lst vs) ∈ l) (hk : k = (j : Int)) (hv : vs[j]? = some v) (hj : j < 1000) (h : Q v s)
    (hs : subscripted slice false (.ref a) (.int k u) = operate [.ref a, .int k u] (getItem (.ref a) (.int k u))) : wpAny (model prog w) A (subscriptTail value slice (.ref a) (.int k u)) Q E s := by
  subst hk
  exact tl_list ⟨_, lst_at S G⟩ (wpAny_getItem_list (lst_at S G) (by omega) (by omega) (by simpa using hv) h) hs
theorem r_set2 {k : Int} {j : Nat} {v : Value} {Q : Unit → Shared → Prop} (S : St b s l) (D : Del l a (ls2 vs) l') (hk : k = (j : Int)) (hj : j < vs.length) (hj2 : j < 1000) (h : ∀ s', St b s' ((a, ls2 (vs.set j v)) :: l') → Q () s') :
    wpAny (model prog w) A (setItem (.ref a) (.int k u) v) Q E s := by
  subst hk
  refine wpAny_setItem_list (ls2_at S D.mem) (by omega) (by omega) (by simpa using hj) fun h' hl hs => h _ ?_
  obtain ⟨o, ho, h1, n, h2⟩ := hl
  exact (S.del D).set hs ho ⟨h1, n, by rw [h2]; simp⟩
theorem r_pow {i j : Int} {t u : Tok} {Q : Value → Shared → Prop} (S : St b s l) (hj : 0 ≤ j) (hj2 : j ≤ 1000000) (hi : i.natAbs < 2 ^ 64) (h : ∀ t s', St b s' l → Q (.int (i ^ j.toNat) t) s') : wpAny (model prog w) A (binaryOp .Pow (.int i t) (.int j u)) Q E s :=
  PyProof.Rows.pow_int_small hj hj2 hi (h _ _ S)
end
/-- an iterator whose iterator is itself -/
noncomputable def SelfIt (prog : Program) (w : World) (b : Bs) (it : Addr) (cell : Nat → Cell) : Prop :=
  ∀ (A : Around) (i : Nat) (s : Shared) (l : Led) (Q : Value → Shared → Prop) (E : Value → Shared → Prop), St b s ((it, cell i) :: l) → Q (.ref it) s → wpAny (model prog w) A (pyIter (.ref it)) Q E s
theorem self_list {prog : Program} {w : World} {b : Bs} {it a : Addr} : SelfIt prog w b it (lit a) := fun _ _ _ _ _ _ S h => wpAny_pyIter_listiter (lit_at S) h
theorem self_range {prog : Program} {w : World} {b : Bs} {it : Addr} {n : Nat} : SelfIt prog w b it (rit n) := fun A i s l Q E S h => by
  obtain ⟨o, ho, rfl⟩ := S.head
  exact wpAny_pyIter_rangeiter ho h
theorem StR.but {b : Bs} {h h' : Heap} {g : Array GenState} {d : Drawn} {os : OsState} {l : Led} {a : Addr} {P : Cell} (S : StR b h g d os ((a, P) :: l)) (hs : Heap.SameBut a h h') : StR b h' g d os l := S.extBut hs.extBut
section
variable {prog : Program} {w : World} {A : Around} {E : Value → Shared → Prop} {b : Bs} {s : Shared} {l : Led} {env : Env}
/-- what is wanted behind a comprehension's turns: its value; or what is done with it at once, its names still there -/
noncomputable def CompDone (prog : Program) (w : World) (A : Around) (E : Value → Shared → Prop) (b : Bs) (n : Nat) (Inv : Nat → List Value → Led → Prop) (Q : Value → Shared → Prop) : Option (Value → Sem Unit) → Prop
  | none => ∀ ys l₃ s₃ D, Inv n ys l₃ → St b s₃ ((D, lst ys) :: l₃) → Q (.ref D) s₃
  | some u => ∀ ys l₃ s₃ D C m, Inv n ys l₃ → St b s₃ ((C, fr m) :: (D, lst ys) :: l₃) → wpAny (model prog w) A (u (.ref D)) (fun _ s'' => ∃ m' l₄, St b s'' ((C, fr m') :: l₄) ∧ ∀ s', St b s' l₄ → Q .none s') E s₃
/-- what a comprehension's turns do -/
noncomputable def CompGo (prog : Program) (w : World) (A : Around) (E : Value → Shared → Prop) (use : Option (Value → Sem Unit)) (b : Bs) (env : Env) (scope : Scope) (cl : List (Str × Addr)) (x : Str) (ifs : List Expr) (elt : Expr) (Q : Value → Shared → Prop) (itv : Value) (s : Shared) : Prop :=
  ∃ (it : Addr) (n : Nat) (item : Nat → Value → Prop) (cell : Nat → Cell) (pre : Led → Prop) (l : Led) (Inv : Nat → List Value → Led → Prop), itv = .ref it ∧ Iter prog w b it n item cell pre ∧ SelfIt prog w b it cell ∧ n ≤ 1048576 ∧ (∀ p l, pre l → pre (p :: l)) ∧ pre l ∧ Inv 0 [] l ∧ St b s ((it, cell 0) :: l) ∧
    (∀ (i : Nat) (ys : List Value) (l₃ : Led) (s₃ : Shared) (C D : Addr) (v : Value) (m : Str → Option Value) (E' : Value → Shared → Prop), i < n → Inv i ys l₃ → pre l₃ → item i v → m x = some v → St b s₃ ((it, cell (i + 1)) :: (C, fr m) :: (D, lst ys) :: l₃) →
      wpAny (model prog w) A (forIn ifs true fun c r => if r = true then do let ok ← isTrue c (compEnvC scope cl C env) (eval c (compEnvC scope cl C env)); pure (ForInStep.yield ok) else pure (ForInStep.yield r)) (fun ok s₄ =>
        if ok = true then wpAny (model prog w) A (eval elt (compEnvC scope cl C env)) (fun y s₅ => ∃ l₄ m', Inv (i + 1) (ys ++ [y]) l₄ ∧ pre l₄ ∧ St b s₅ ((it, cell (i + 1)) :: (C, fr m') :: (D, lst ys) :: l₄)) E' s₄
        else ∃ l₄ m', Inv (i + 1) ys l₄ ∧ pre l₄ ∧ St b s₄ ((it, cell (i + 1)) :: (C, fr m') :: (D, lst ys) :: l₄)) E' s₃) ∧
    CompDone prog w A E b n Inv Q use
theorem comp_block {elt iter : Expr} {x : Str} {px : Pos} {ifs : List Expr} {scope : Scope} {cl : List (Str × Addr)} {pos : Pos} {itv : Value} {use : Option (Value → Sem Unit)} {Q : Value → Shared → Prop} (hh : A.handled = none)
    (hcell : ∀ y ∈ scope.names, y.2 ≠ .cell) (hkind : scope.kind = .function) (hx : scope.names.lookup x = some .local) (h : CompGo prog w A E use b env scope cl x ifs elt Q itv s) :
    wpAny (model prog w) A (newList []) (fun acc s₃ => wpAny (model prog w) A (newFunctionEnv scope env.globals cl [] env.qual none .none (some env)) (fun cenv s₄ =>
      codeAny (model prog w) A (.compStart (.ListComp elt [⟨.Name x px, iter, ifs, 0⟩] scope pos) 0 itv acc { cenv with scope := relabel scope env }) (compPost (model prog w) A E use Q acc cenv.locals) s₄) E s₃) E s := by
  obtain ⟨it, n, item, cell, pre, l, Inv, rfl, I, hself, hn, hpre, hp, h0, S, turn, done⟩ := h
  refine wpAny_newObj_type (wpAny_newFunctionEnv hcell (by intro y hy; simp at hy) (fun h₁ hns₁ hsb₁ => ?_) hkind)
  have S1 : St b { s with heap := s.heap.push { cls := .type "list", data := .seq ([] : List Value).toArray } } ((s.heap.objs.size, lst []) :: (it, cell 0) :: l) := S.push rfl ⟨0, rfl⟩
  dsimp only at hns₁ hsb₁ ⊢
  generalize hH2 : s.heap.push { cls := .type "list", dict := none, data := .seq ([] : List Value).toArray } = H2 at hns₁ hsb₁ S1 ⊢
  obtain ⟨oC, hoC, hpC⟩ := fr_of_ns hns₁
  have S2 : StR b h₁ s.gens s.drawn s.os ((H2.objs.size, fr fun y => List.lookup y [].reverse) :: (s.heap.objs.size, lst []) :: (it, cell 0) :: l) :=
    S1.new (fun c o e => hsb₁.extBut c o (Nat.ne_of_lt (Heap.lt_size e)) (Heap.get?_push_of_some _ e)) (Nat.le_refl _) hoC hpC
  have S3 : StR b h₁ s.gens s.drawn s.os ((it, cell 0) :: (H2.objs.size, fr fun y => List.lookup y [].reverse) :: (s.heap.objs.size, lst []) :: l) :=
    S2.ext (.cons (.tail (.tail .head)) .all)
  clear S2 S1 S
  generalize hC : H2.objs.size = C at *
  generalize hD : s.heap.objs.size = D at *
  have loop : ∀ s₃ : Shared, St b s₃ ((it, cell 0) :: (C, fr fun y => List.lookup y [].reverse) :: (D, lst []) :: l) →
      codeAny (model prog w) A (.compLoop (.ListComp elt [⟨.Name x px, iter, ifs, 0⟩] scope pos) 0 (.ref it) (.ref D) (compEnvC scope cl C env)) (compPost (model prog w) A E use Q (.ref D) C) s₃ := fun s₃ S3 => by
    refine codeAny_compLoop_tests (fun k s' => ∃ i ys l₃ m, i + k = n ∧ ys.length ≤ i ∧ Inv i ys l₃ ∧ pre l₃ ∧ St b s' ((it, cell i) :: (C, fr m) :: (D, lst ys) :: l₃)) ?_ n ⟨0, [], l, _, by omega, Nat.le_refl _, h0, hp, S3⟩
    rintro k s' ⟨i, ys, l₃, m, hk, hys, hI, hp3, S4⟩
    by_cases hlt : i < n
    · refine I.next A i s' _ _ _ hlt (hpre _ _ (hpre _ _ hp3)) S4 fun v s5 hv S5 => ?_
      refine wpAny_assign_Name (wpAny_storeName_local (lookup_relabel_local hx) (ns_of_fr (S5.get (.tail _ (.head _)))) (fun h' hn' hs' => ?_) (by simp [compEnvC, relabel, hkind]))
      obtain ⟨o, ho, hpo⟩ := fr_of_ns hn'
      have S6 : StR b h' s5.gens s5.drawn s5.os ((C, fr fun y => if y = x then some v else m y) :: (it, cell (i + 1)) :: (D, lst ys) :: l₃) := (S5.perm (List.Perm.swap _ _ _)).set hs' ho hpo
      refine wpAny_mono (turn i ys l₃ _ C D v _ _ hlt hI hp3 hv (if_pos rfl) (S6.perm (List.Perm.swap _ _ _))) (fun ok s7 h7 => ?_) fun _ _ e => e
      cases ok with
      | true =>
        rw [if_pos rfl] at h7 ⊢
        refine wpAny_mono h7 (fun y s8 h8 => ?_) fun _ _ e => e
        obtain ⟨l₄, m', hI', hp', S8⟩ := h8
        refine r_append S8 (.tail (.tail .head)) (by omega) fun s9 S9 => ?_
        exact ⟨k - 1, by omega, i + 1, ys ++ [y], l₄, m', by omega, by simp; omega, hI', hp', S9.ext (.cons (.tail .head) (.cons (.tail .head) .all))⟩
      | false =>
        rw [if_neg (by decide)] at h7 ⊢
        obtain ⟨l₄, m', hI', hp', S8⟩ := h7
        exact ⟨k - 1, by omega, i + 1, ys, l₄, m', by omega, by omega, hI', hp', S8⟩
    · obtain rfl : i = n := by omega
      refine I.stop A s' _ _ _ hh (hpre _ _ (hpre _ _ hp3)) S4 fun s5 S5 => ?_
      cases use with
      | none => exact ⟨m, ns_of_fr S5.head, fun h' hs' => done ys l₃ _ D hI (S5.but hs')⟩
      | some u =>
        refine wpAny_mono (done ys l₃ _ D C m hI S5) (fun _ s6 h6 => ?_) fun _ _ e => e
        obtain ⟨m', l₄, S6, h7⟩ := h6
        exact ⟨m', ns_of_fr S6.head, fun h' hs' => h7 _ (S6.but hs')⟩
  exact codeAny_compStart_list (loop _ S3) (hself _ 0 _ _ _ _ S3 (loop _ S3))
theorem r_comp {elt iter : Expr} {x : Str} {px : Pos} {ifs : List Expr} {scope : Scope} {cl : List (Str × Addr)} {pos : Pos} {Q : Value → Shared → Prop} (hh : A.handled = none)
    (hclos : closureFor scope env = pure cl) (hcell : scope.names.all (fun y => y.2 != .cell) = true) (hkind : scope.kind = .function) (hnames : scope.names.all (fun y => y.2 != .local || scope.names.lookup y.1 == some .local) = true) (hx : scope.names.lookup x = some .local)
    (h : wpAny (model prog w) A (eval iter env) (fun xv s₁ => wpAny (model prog w) A (pyIter xv) (fun itv s₂ => CompGo prog w A E none b env scope cl x ifs elt Q itv s₂) E s₁) E s)
    (hs : ∀ x, foldedSetIterable iter env x = pure x) : wpAny (model prog w) A (eval (.ListComp elt [⟨.Name x px, iter, ifs, 0⟩] scope pos) env) Q E s := by
  rw [eval_ListComp]
  refine wpAny_comprehension_free (use := none) rfl hs hclos hkind (fun y hy hl => ?_) (wpAny_mono h (fun xv s₁ h₁ => wpAny_mono h₁ (fun it s₂ h₂ => ?_) fun _ _ e => e) fun _ _ e => e)
  · have := List.all_eq_true.mp hnames y hy
    rw [hl] at this
    simpa using this
  · exact comp_block hh (fun y hy e => by have := List.all_eq_true.mp hcell y hy; rw [e] at this; simp at this) hkind hx h₂
/-- the same where the value is stored under a name at once -/
theorem r_compA {elt iter : Expr} {x y : Str} {px py apos : Pos} {ifs : List Expr} {scope : Scope} {cl : List (Str × Addr)} {pos : Pos} {Q : Flow → Shared → Prop} (hh : A.handled = none)
    (hclos : closureFor scope env = pure cl) (hcell : scope.names.all (fun y => y.2 != .cell) = true) (hkind : scope.kind = .function) (hnames : scope.names.all (fun y => y.2 != .local || scope.names.lookup y.1 == some .local) = true) (hx : scope.names.lookup x = some .local)
    (hsw : swapsWith (.ListComp elt [⟨.Name x px, iter, ifs, 0⟩] scope pos) (some (.Name y py)) apos.line env = pure true)
    (h : wpAny (model prog w) A (eval iter env) (fun xv s₁ => wpAny (model prog w) A (pyIter xv) (fun itv s₂ => CompGo prog w A E (some (assign (.Name y py) env)) b env scope cl x ifs elt (fun _ s => Q .next s) itv s₂) E s₁) E s)
    (hs : ∀ x, foldedSetIterable iter env x = pure x) : wpAny (model prog w) A (exec (.Assign [.Name y py] (.ListComp elt [⟨.Name x px, iter, ifs, 0⟩] scope pos) apos) env) Q E s := by
  rw [exec_Assign_Name_used _ _ _ _ hsw]
  refine wpAny_bind (wpAny_standAt (wpAny_bind ?_))
  rw [arm_evalThenUse_ListComp]
  refine wpAny_bind (wpAny_mono (wpAny_comprehension_free (use := some (assign (.Name y py) env)) (Q := fun _ s => Q .next s) rfl hs hclos hkind (fun y hy hl => ?_) (wpAny_mono h (fun xv s₁ h₁ => wpAny_mono h₁ (fun it s₂ h₂ => ?_) fun _ _ e => e) fun _ _ e => e)) (fun _ s h => wpAny_pure (wpAny_pure h)) fun _ _ e => e)
  · have := List.all_eq_true.mp hnames y hy
    rw [hl] at this
    simpa using this
  · exact comp_block (Q := fun _ s => Q .next s) hh (fun y hy e => by have := List.all_eq_true.mp hcell y hy; rw [e] at this; simp at this) hkind hx h₂
end
/-- the purse of a law: two numbers, the one not below nought, the other small -/
noncomputable def crt (N : Nat) : Cell := fun o => ∃ (i : Int) (j : Nat) (ti tj : Tok), 0 ≤ i ∧ j < N ∧ ls2 [.int i ti, .int (j : Nat) tj] o
theorem crt_open {b : Bs} {s : Shared} {l : Led} {c : Addr} {N : Nat} (S : St b s ((c, crt N) :: l)) : ∃ (i : Int) (j : Nat) (ti tj : Tok), 0 ≤ i ∧ j < N ∧ St b s ((c, ls2 [.int i ti, .int (j : Nat) tj]) :: l) := by
  obtain ⟨o, ho, i, j, ti, tj, h1, h2, h3⟩ := S.head
  exact ⟨i, j, ti, tj, h1, h2, S.as ho h3⟩
theorem crt_close {b : Bs} {s : Shared} {l : Led} {c : Addr} {N : Nat} {i : Int} {j : Nat} {ti tj : Tok} (S : St b s ((c, ls2 [.int i ti, .int (j : Nat) tj]) :: l)) (h1 : 0 ≤ i) (h2 : j < N) : St b s ((c, crt N) :: l) :=
  S.weak fun o h => ⟨i, j, ti, tj, h1, h2, h⟩
theorem strValues_txs (ps : List (List Nat × Tok)) : strValues (ps.map fun p => (tx p.1, p.2)) = txs ps := by
  induction ps with
  | nil => rfl
  | cons p r ih => show Value.str _ _ :: strValues _ = _; rw [ih]; rfl
theorem str_app (x y : Str) : x ++ y = tx (x.cps.toList ++ y.cps.toList) := by
  show (⟨x.cps ++ y.cps⟩ : Str) = ⟨(x.cps.toList ++ y.cps.toList).toArray⟩
  rw [← List.append_toArray]
theorem join_flat : ∀ ls : List (List Nat), Str.join (Str.ofString "") (ls.map tx) = tx ls.flatten
  | [] => rfl
  | [a] => by simp [Str.join]
  | a :: c :: r => by
    show tx a ++ Str.ofString "" ++ Str.join (Str.ofString "") ((c :: r).map tx) = _
    rw [join_flat (c :: r), str_app, str_app, show (Str.ofString "").cps.toList = [] from lit_nil]
    simp
section
variable {prog : Program} {w : World} {A : Around} {E : Value → Shared → Prop} {b : Bs} {s : Shared} {l l' : Led} {a : Addr} {vs : List Value} {t u : Tok} {x y : Str}
theorem r_lenB {Q : Value → Shared → Prop} (S : St b s l) (hl : b.B.IsList a vs.toArray) (hz : vs.length ≤ 1048576) (h : ∀ t s', St b s' l → Q (.int (vs.length : Nat) t) s') : wpAny (model prog w) A (call (.builtin "len") [.ref a]) Q E s := by
  have hl' : s.heap.IsList a vs.toArray := let ⟨o, ho, r⟩ := hl; ⟨o, S.stays _ _ ho, r⟩
  refine PyProof.Rows.len_list hl' (by rw [List.size_toArray]; omega) ?_
  rw [List.size_toArray]
  exact h _ _ S
theorem r_lenL {Q : Value → Shared → Prop} (S : St b s l) (G : (a, lst vs) ∈ l) (hz : vs.length ≤ 1048576) (h : ∀ t s', St b s' l → Q (.int (vs.length : Nat) t) s') : wpAny (model prog w) A (call (.builtin "len") [.ref a]) Q E s := by
  refine PyProof.Rows.len_list (lst_at S G) (by rw [List.size_toArray]; omega) ?_
  rw [List.size_toArray]
  exact h _ _ S
theorem r_itemB {value slice : Expr} {k : Int} {j : Nat} {v : Value} {Q : Value → Shared → Prop} (S : St b s l) (hl : b.B.IsList a vs.toArray) (hk : k = (j : Int)) (hv : vs[j]? = some v) (hj : j < 1000) (h : Q v s)
    (hs : subscripted slice false (.ref a) (.int k u) = operate [.ref a, .int k u] (getItem (.ref a) (.int k u))) : wpAny (model prog w) A (subscriptTail value slice (.ref a) (.int k u)) Q E s := by
  subst hk
  have hl' : s.heap.IsList a vs.toArray := let ⟨o, ho, r⟩ := hl; ⟨o, S.stays _ _ ho, r⟩
  exact tl_list ⟨_, hl'⟩ (wpAny_getItem_list hl' (by omega) (by omega) (by simpa using hv) h) hs
theorem r_addS {Q : Value → Shared → Prop} (S : St b s l) (hz : x.cps.toList.length + y.cps.toList.length ≤ 1048576) (h : ∀ t s', St b s' l → Q (.str (tx (x.cps.toList ++ y.cps.toList)) t) s') : wpAny (model prog w) A (binaryOp .Add (.str x t) (.str y u)) Q E s := by
  have e1 : x.length = x.cps.toList.length := by simp [Str.length]
  have e2 : y.length = y.cps.toList.length := by simp [Str.length]
  refine PyProof.Rows.add_str (fun t' tk => ?_) (by rw [e1, e2, sizeLine_eq]; omega)
  rw [str_app]
  exact h _ _ S
theorem mul_one (c n : Nat) : Txt.mul (tx [c]) (n : Int) = tx (List.replicate n c) := by
  have hf : ∀ (n : Nat) (acc : Array Nat), (List.replicate n #[c]).foldl (· ++ ·) acc = acc ++ (List.replicate n c).toArray := by
    intro n
    induction n with
    | zero => intro acc; simp
    | succ n ih => intro acc; rw [List.replicate_succ, List.foldl_cons, ih, List.replicate_succ]; apply Array.ext'; simp
  unfold Txt.mul
  by_cases h0 : (n : Int) < 1
  · rw [if_pos h0]
    have : n = 0 := by omega
    subst this; rfl
  · rw [if_neg h0]
    by_cases h1 : n = 1
    · subst h1; rfl
    · have h2 : ((n : Int) == 1 || (tx [c]).length == 0) = false := by rw [tx_len]; simp; omega
      rw [if_neg (by rw [h2]; decide)]
      have := hf n #[]
      show (⟨(List.replicate (n : Int).toNat #[c]).foldl (· ++ ·) #[]⟩ : Str) = _
      rw [Int.toNat_natCast, this]; simp
theorem r_mulS {c n : Nat} {i : Int} {Q : Value → Shared → Prop} (S : St b s l) (hx : x.cps.toList = [c]) (hi : i = (n : Int)) (hn : n ≤ 1000) (h : ∀ t s', St b s' l → Q (.str (tx (List.replicate n c)) t) s') : wpAny (model prog w) A (binaryOp .Mult (.str x t) (.int i u)) Q E s := by
  subst hi
  have e : x = tx [c] := by rw [← hx]
  subst e
  refine SB.mul ⟨by simp; omega, fun h0 h1 => ?_, fun h0 h1 => ?_⟩ (fun t' k => by rw [mul_one]; exact h _ _ S)
  · rw [tx_len]
    simp only [List.length_cons, List.length_nil]
    have : (1 : Int) ≤ (2 ^ 63 - 1) / (n : Int) := by
      apply (Int.le_ediv_iff_mul_le (by omega)).mpr
      omega
    omega
  · rw [tx_len]
    simp only [List.length_cons, List.length_nil]
    unfold Builtin.Str.tooLong
    rw [decide_eq_false]
    rw [sizeLine_eq]; simp; omega
theorem r_joinE {ps : List (List Nat × Tok)} {Q : Value → Shared → Prop} (S : St b s l) (G : (a, lst (txs ps)) ∈ l) (hz : ((ps.map (·.1)).map (·.length)).sum + ps.length ≤ 1048576) (h : ∀ t s', St b s' l → Q (.str (tx (ps.map (·.1)).flatten) t) s') :
    wpAny (model prog w) A (call (.builtin "str.join") [.str (Str.ofString "") t, .ref a]) Q E s := by
  refine PySem.SC.join (l := ps.map fun p => (tx p.1, p.2)) (by rw [strValues_txs]; exact lst_at S G) rfl ?_ (fun t' k => ?_)
  · refine PyProof.Rows.joinOk_of_weight ?_ (by decide +kernel)
    try simp only [List.map_map, Function.comp_def, tx_len, List.length_map] at hz ⊢
    exact hz
  · have e : Txt.join (Str.ofString "") ((ps.map fun p => (tx p.1, p.2)).map (·.1)) = tx (ps.map (·.1)).flatten := by
      rw [← join_flat]
      show Builtin.Str.glued _ _ = _
      rw [StrLaws.glued_eq_join, List.map_map, List.map_map]; rfl
    rw [e]; exact h _ _ S
end
theorem words_k2_list : True := by
 (k_with "st.k2_list0" => first
  | (focus ((with_reducible refine' wpAny_Assign_Subscript ?_ ?_); (rotate_right 2); (rotate_left 1); (· kernel_rfl); (rotate_right 1)))
  | fail "none")
 (k_with "sl.k2_list1" => first
  | (focus ((with_reducible refine' r_item2 ?_ ?_ ?_ ?_ ?_ ?_ ?_); (rotate_right 7); (· with_reducible assumption); (rotate_left 5); (· with_unfolding_all rfl); (rotate_right 5); (· k_extra "mem"); (· rfl); (· rfl); (· decide)))
  | (focus ((with_reducible refine' r_itemL ?_ ?_ ?_ ?_ ?_ ?_ ?_); (rotate_right 7); (· with_reducible assumption); (rotate_left 5); (· with_unfolding_all rfl); (rotate_right 5); (· k_extra "mem"); (· rfl); (· rfl); (· decide)))
  | fail "none")
 (k_with "op.k2_list2" => first
  | (focus ((with_reducible refine' r_pow ?_ ?_ ?_ ?_ ?_); (rotate_right 5); (· with_reducible assumption); (· decide); (· decide); (· decide); (intro _ _ _)))
  | (focus ((with_reducible refine' r_set2 ?_ ?_ ?_ ?_ ?_ ?_); (rotate_right 6); (· with_reducible assumption); (· k_extra "del"); (· rfl); (· simp); (· decide); (intro _ _)))
  | (focus ((with_reducible refine' r_mod ?_ ?_ ?_); (rotate_right 3); (· with_reducible assumption); (· assumption); (intro _ _ _)))
  | (focus ((with_reducible refine' r_div ?_ ?_ ?_ ?_); (rotate_right 4); (· with_reducible assumption); (· assumption); (· assumption); (intro _ _ _)))
  | (focus ((with_reducible refine' r_lenB ?_ ?_ ?_ ?_); (rotate_right 4); (· with_reducible assumption); (· assumption); (· assumption); (intro _ _ _)))
  | (focus ((with_reducible refine' r_lenL ?_ ?_ ?_ ?_); (rotate_right 4); (· with_reducible assumption); (· k_extra "mem"); (· first | assumption | decide); (intro _ _ _)))
  | fail "none")
 trivial
local macro_rules
  | `(tactic| k_extra "st") => `(tactic| k_extra "st.k2_list0")
  | `(tactic| k_extra "sl") => `(tactic| k_extra "sl.k2_list1")
  | `(tactic| k_extra "op") => `(tactic| k_extra "op.k2_list2")
noncomputable def cel (v : Option Value) : Cell := fun o => o.data = .cell v
theorem StR.news {b : Bs} {h h' : Heap} {g : Array GenState} {d : Drawn} {os : OsState} {l ns : Led} (S : StR b h g d os l) (k : ∀ c x, h.get? c = some x → h'.get? c = some x)
    (hn : ∀ p ∈ ns, h.objs.size ≤ p.1 ∧ ∃ o, h'.get? p.1 = some o ∧ p.2 o) (hd : (ns.map (·.1)).Nodup) : StR b h' g d os (ns ++ l) := by
  have S' := S.keeps k
  refine ⟨S'.gens, S'.drawn, S'.os, S'.stays, fun q hq => ?_, fun q hq => ?_, ?_⟩
  · rcases List.mem_append.mp hq with hq | hq
    · exact (hn q hq).2
    · exact S'.at_ q hq
  · rcases List.mem_append.mp hq with hq | hq
    · cases e : b.B.get? q.1 with
      | none => rfl
      | some x => exact absurd (Heap.lt_size (S.stays _ _ e)) (Nat.not_lt.mpr (hn q hq).1)
    · exact S'.fresh q hq
  · rw [List.map_append]
    refine List.nodup_append.mpr ⟨hd, S'.nodup, fun a ha c hc e => ?_⟩
    subst e
    obtain ⟨p, hp, rfl⟩ := List.mem_map.mp ha
    obtain ⟨q, hq, e⟩ := List.mem_map.mp hc
    obtain ⟨x, hx, _⟩ := S.at_ q hq
    exact absurd (Heap.lt_size hx) (Nat.not_lt.mpr (e ▸ (hn p hp).1))
section
variable {prog : Program} {w : World} {M : Model} {A : Around} {E : Value → Shared → Prop} {b : Bs} {s : Shared} {l l' : Led} {env : Env} {x : Str} {pos : Pos} {v : Value} {m : Str → Option Value} {c L : Addr} {K : Frag}
theorem rE_loc {Q : Value → Shared → Prop} (S : St b s l) (G : (L, fr m) ∈ l) (hL : env.locals = L) (hk : env.scope.kind = .function) (hl : env.kindOf x = some .local) (hv : m x = some v) (hd : (x == ("__debug__" : Str)) = false) (h : Q v s) : wpAny M A (eval (.Name x pos) env) Q E s := by
  subst hL
  exact wpAny_Name (wpAny_loadName_local hk hl (ns_of_fr (S.get G)) hv h) hd
theorem rE_cell {Q : Value → Shared → Prop} (S : St b s l) (G : (c, cel (some v)) ∈ l) (hk : env.scope.kind = .function) (hl : env.kindOf x = some .cell) (hc : env.cells.lookup x = some c) (hd : (x == ("__debug__" : Str)) = false) (h : Q v s) : wpAny M A (eval (.Name x pos) env) Q E s :=
  wpAny_Name (wpAny_loadName_cell hk hl hc (let ⟨o, ho, e⟩ := S.get G; ⟨o, ho, e⟩) h) hd
theorem rE_stc {v₀ : Option Value} {Q : Unit → Shared → Prop} (S : St b s l) (D : Del l c (cel v₀) l') (hk : env.scope.kind = .function) (hl : env.kindOf x = some .cell) (hc : env.cells.lookup x = some c) (h : ∀ s', St b s' ((c, cel (some v)) :: l') → Q () s') : wpAny M A (storeName env x v) Q E s := by
  refine wpAny_storeName_cell hk hl hc (v₀ := v₀) (let ⟨o, ho, e⟩ := S.get D.mem; ⟨o, ho, e⟩) fun h' hv hs => h _ ?_
  obtain ⟨o, ho, e⟩ := hv
  exact (S.del D).set hs ho e
theorem rE_glo {Q : Value → Shared → Prop} (X : Wd K b) (S : St b s l) (hg : env.globals = mainGlobals) (hk : env.scope.kind = .function) (hl : env.kindOf x = some .globalImplicit) (e : nsIn K mainGlobals x = some (some v)) (hd : (x == ("__debug__" : Str)) = false) (h : Q v s) : wpAny M A (eval (.Name x pos) env) Q E s := by
  obtain ⟨mg, hm⟩ := X.g
  exact Calls.Name_function_global hk hl (Calls.loadGlobal_global (env := env) (by rw [hg]; exact hm.keeps S.stays) (mg_of X.inK hm e) h) hd
theorem rE_blt {Q : Value → Shared → Prop} (X : Wd K b) (S : St b s l) (hg : env.globals = mainGlobals) (hb : env.builtins = builtinsNs) (hk : env.scope.kind = .function) (hl : env.kindOf x = some .globalImplicit) (e : nsIn K mainGlobals x = some none) (hv : bootBuiltins x = some v) (hn : x ≠ "__name__")
    (hd : (x == ("__debug__" : Str)) = false) (h : Q v s) : wpAny M A (eval (.Name x pos) env) Q E s := by
  obtain ⟨mg, hm⟩ := X.g
  obtain ⟨mb, hmb, hbb⟩ := X.bb
  exact Calls.Name_function_global hk hl (Calls.loadGlobal_builtin (env := env) (by rw [hg]; exact hm.keeps S.stays) (mg_none_of X.inK hm e) (by rw [hb]; exact hmb.keeps S.stays) ((hbb x hn).trans hv) h) hd
end
section
variable {prog : Program} {w : World} {A : Around} {E : Value → Shared → Prop} {b : Bs} {s : Shared} {l : Led} {K : Frag}
/-- a call of a def whose names are shared with its comprehension -/
theorem r_callC {name qual : Str} {params : Arguments} {body : List Stmt} {scope : Scope} {dV kV doc pm cdv ct oc : Value} {an od : Option Addr} {osl : Array (Option Value)} {f : Addr} {pos : List Value} {binds : List (Str × Value)} {Q : Value → Shared → Prop}
    (X : Wd K b) (S : St b s l) (ho : K.lookup f = some ⟨oc, od, .func (fnOf name qual params body scope dV kV doc pm an cdv ct), osl⟩) (hcd : codeIn K cdv qual = true) (hroom : A.depth < recursionLimit)
    (hbind : bindArgs (fnOf name qual params body scope dV kV doc pm an cdv ct) ⟨pos, []⟩ = pure binds)
    (hkind : ∀ n, ∀ x ∈ binds, scope.names.lookup x.1 = some .local ∨ (scope.names.lookup x.1 = some .cell ∧ ((cellsFrom n scope.names []).lookup x.1).isSome = true))
    (hco : scope.isCoroutine = false) (hgen : scope.isGenerator = false) (hk : scope.kind = .function)
    (h : ∀ s' L, L = s.heap.objs.size → InCallC s L (bindL (fun n => scope.names.lookup n) binds fun _ => none) (cellsFrom (L + 1) scope.names []) (bindC (fun n => scope.names.lookup n) binds fun _ => none) s' →
      wpAny (model prog w) (A.deeper (envOfC qual scope L f cdv)) (execs body (envOfC qual scope L f cdv))
        (RQ Q) (LV (model prog w) A (envOfC qual scope L f cdv) E) s') :
    wpAny (model prog w) A (call (.ref f) pos []) Q E s := by
  refine wpAny_call (codeAny_call_cells (fd := fnOf name qual params body scope dV kV doc pm an cdv ct) (body := body) (binds := binds) hroom (X.inS S _ _ ho) rfl (X.nolimit.keeps S.stays) (codeRec_of (X.inS S) hcd) rfl hbind rfl (hkind _) (fun s₁ hI => ?_) hco hgen hk)
  exact h s₁ _ rfl hI
end
theorem fmod_nat (a c : Nat) : (a : Int).fmod (c : Int) = ((a % c : Nat) : Int) := by rw [Int.fmod_eq_emod_of_nonneg _ (by omega)]; rfl
theorem fdiv_nat (a c : Nat) : (a : Int).fdiv (c : Int) = ((a / c : Nat) : Int) := by rw [Int.fdiv_eq_ediv_of_nonneg _ (by omega)]; rfl
theorem fmod_of {i : Int} {j : Int} (a c : Nat) (h1 : i = (a : Int)) (h2 : j = (c : Int)) : i.fmod j = ((a % c : Nat) : Int) := by rw [h1, h2, fmod_nat]
theorem fdiv_of {i : Int} {j : Int} (a c : Nat) (h1 : i = (a : Int)) (h2 : j = (c : Int)) : i.fdiv j = ((a / c : Nat) : Int) := by rw [h1, h2, fdiv_nat]
theorem crt_close2 {b : Bs} {s : Shared} {l : Led} {c : Addr} {N : Nat} {i : Int} {j : Nat} {ti tj : Tok} {vs : List Value} (S : St b s ((c, ls2 vs) :: l)) (hv : vs = [.int i ti, .int (j : Nat) tj]) (h1 : 0 ≤ i) (h2 : j < N) : St b s ((c, crt N) :: l) := by
  subst hv; exact crt_close S h1 h2
theorem crt_made {b : Bs} {s : Shared} {l : Led} {c : Addr} {N : Nat} {i j M : Int} {ti tj : Tok} (S : St b s ((c, lst [.int i ti, .int (j.fmod M) tj]) :: l)) (hM : M = (N : Int)) (h1 : 0 ≤ i) (hN : 0 < N) : St b s ((c, crt N) :: l) := by
  subst hM
  have h2 := Int.fmod_nonneg_of_pos j (show (0 : Int) < N by omega)
  have h3 := Int.fmod_lt_of_pos j (show (0 : Int) < N by omega)
  refine S.weak fun o ho => ⟨i, (j.fmod N).toNat, ti, tj, h1, by omega, ?_⟩
  rw [Int.toNat_of_nonneg h2]
  exact lst_ls2 ho
/-- how words_of ends: all told, a fault at a place, not asked -/
inductive Oc where
  | ok
  | err (n : Nat)
  | un
noncomputable def fg {α : Type} : Res α → Oc
  | .ok _ => .ok
  | .err n => .err n
  | .un => .un
noncomputable def Oc.sh (k : Nat) : Oc → Oc
  | .err n => .err (k + n)
  | x => x
noncomputable def scanR (nx : List (List Nat) → Bool → List Nat → Res Nx) : Nat → List Nat → List (List Nat) → Bool → Oc
  | 0, _, _, _ => .un
  | f + 1, q, ms, e => match nx ms e q with
    | .un => .un
    | .err k => .err k
    | .ok o => if o.kind = T "end" then (if o.ms = [] then .ok else .err o.n0) else (scanR nx f (q.drop o.n) o.ms (endsN o.kind o.text)).sh o.n
theorem sh_sh (a c : Nat) (x : Oc) : (x.sh c).sh a = x.sh (a + c) := by cases x <;> simp [Oc.sh, Nat.add_assoc]
theorem sh_un {k : Nat} {x : Oc} (h : x.sh k ≠ .un) : x ≠ .un := fun q => h (by rw [q]; rfl)
section
variable {nx : List (List Nat) → Bool → List Nat → Res Nx} {r : List Nat}
theorem scan_words : ∀ (f n : Nat) (ms : List (List Nat)) (w : WRow) (acc : List WRow), ¬ w.kind = T "end" → acc.length + f ≤ 100000 → scanR nx f (r.drop n) ms (endsN w.kind w.text) ≠ .un →
    fg (wordsL nx r (f + 1) n ms w acc) = (scanR nx f (r.drop n) ms (endsN w.kind w.text)).sh n
  | 0, _, _, _, _, _, _, h => absurd rfl h
  | f + 1, n, ms, w, acc, hw, ha, h => by
    rw [wordsL, if_neg hw, if_neg (by omega)]
    rw [scanR] at h ⊢
    cases hn : nx ms (endsN w.kind w.text) (r.drop n) with
    | un => rw [hn] at h; exact absurd rfl h
    | err k => rfl
    | ok o =>
      rw [hn] at h
      dsimp only at h ⊢
      by_cases hk : o.kind = T "end"
      · rw [if_pos hk, wordsL, if_pos hk]
        by_cases hm : o.ms = []
        · rw [if_pos hm, if_pos hm]; rfl
        · rw [if_neg hm, if_neg hm]; rfl
      · rw [if_neg hk] at h ⊢
        have h2 := sh_un h
        rw [List.drop_drop] at h2 ⊢
        rw [scan_words f (n + o.n) o.ms ⟨o.kind, o.text, n + o.n0, o.vl, decide (0 < o.n0)⟩ (acc ++ [w]) hk (by simp; omega) h2, sh_sh]
theorem words_scan (hz : r.length ≤ 90000) (h : scanR nx (r.length + 1000) r [] false ≠ .un) : fg (wordsS nx r) = scanR nx (r.length + 1000) r [] false := by
  rw [scanR] at h ⊢
  unfold wordsS
  cases hn : nx [] false r with
  | un => rw [hn] at h; exact absurd rfl h
  | err k => rfl
  | ok o =>
    rw [hn] at h
    dsimp only at h ⊢
    by_cases hk : o.kind = T "end"
    · rw [if_pos hk, wordsL, if_pos hk]
      by_cases hm : o.ms = []
      · rw [if_pos hm, if_pos hm]; rfl
      · rw [if_neg hm, if_neg hm]; rfl
    · rw [if_neg hk] at h ⊢
      have h2 := sh_un h
      exact scan_words (r.length + 999) o.n o.ms ⟨o.kind, o.text, o.n0, o.vl, decide (0 < o.n0)⟩ [] hk (by simp; omega) h2
theorem scan_more : ∀ (f k : Nat) (q : List Nat) (ms : List (List Nat)) (e : Bool), scanR nx f q ms e ≠ .un → scanR nx (f + k) q ms e = scanR nx f q ms e
  | 0, _, _, _, _, h => absurd rfl h
  | f + 1, k, q, ms, e, h => by
    rw [show f + 1 + k = (f + k) + 1 by omega]
    rw [scanR] at h ⊢
    rw [scanR]
    cases hn : nx ms e q with
    | un => rfl
    | err k => rfl
    | ok o =>
      rw [hn] at h
      dsimp only at h ⊢
      by_cases hk : o.kind = T "end"
      · rw [if_pos hk, if_pos hk]
      · rw [if_neg hk] at h ⊢
        rw [if_neg hk, scan_more f k _ _ _ (sh_un h)]
/-- some words further -/
noncomputable def nextsR (nx : List (List Nat) → Bool → List Nat → Res Nx) : Nat → Nat → List Nat → List (List Nat) → Bool → Option (Nat × List Nat × List (List Nat) × Bool)
  | 0, n, q, ms, e => some (n, q, ms, e)
  | k + 1, n, q, ms, e => match nx ms e q with
    | .ok o => if o.kind = T "end" then none else nextsR nx k (n + o.n) (q.drop o.n) o.ms (endsN o.kind o.text)
    | _ => none
theorem nexts_scan : ∀ (k n : Nat) (q : List Nat) (ms : List (List Nat)) (e : Bool) (n' : Nat) (q' : List Nat) (ms' : List (List Nat)) (e' : Bool) (f : Nat), nextsR nx k n q ms e = some (n', q', ms', e') →
    (scanR nx (f + k) q ms e).sh n = (scanR nx f q' ms' e').sh n'
  | 0, _, _, _, _, _, _, _, _, _, h => by cases h; rfl
  | k + 1, n, q, ms, e, n', q', ms', e', f, h => by
    rw [nextsR] at h
    rw [show f + (k + 1) = (f + k) + 1 by omega, scanR]
    cases hn : nx ms e q with
    | un => rw [hn] at h; cases h
    | err k => rw [hn] at h; cases h
    | ok o =>
      rw [hn] at h
      dsimp only at h ⊢
      by_cases hk : o.kind = T "end"
      · rw [if_pos hk] at h; cases h
      · rw [if_neg hk] at h ⊢
        rw [sh_sh]
        exact nexts_scan k _ _ _ _ _ _ _ _ f h
end
/-- at the top it is all one what stands behind -/
theorem next_top {put : List Nat → Res (Nat × List Nat)} (e : Bool) (r : List Nat) : nextG put [] e r = nextG put [] false r := by
  have hN : ∀ k t, noteN [] k t e = noteN [] k t false := fun k t => by
    unfold noteN noteS
    have : countsL [] = true := rfl
    simp [this]
  unfold nextG
  split
  · rfl
  · unfold nextK
    split <;> simp only [hN]
theorem scan_top {put : List Nat → Res (Nat × List Nat)} (f : Nat) (e : Bool) (q : List Nat) : scanR (nextG put) f q [] e = scanR (nextG put) f q [] false := by
  cases f with
  | zero => rfl
  | succ f => rw [scanR, scanR, next_top e q]
/-- a place of a text: row and column -/
noncomputable def tailLen (l : List Nat) : Nat := (l.reverse.takeWhile fun a => decide (a ≠ 10)).length
noncomputable def spotS (l : List Nat) : Int × Int := ((l.count 10 : Nat) + 1, (tailLen l : Nat) + 1)
theorem tail_snoc (l : List Nat) (a : Nat) : tailLen (l ++ [a]) = if a = 10 then 0 else tailLen l + 1 := by
  unfold tailLen
  rw [List.reverse_append, List.reverse_singleton, List.singleton_append, List.takeWhile_cons]
  by_cases h : a = 10 <;> simp [h]
theorem spotT_S (tl : List Nat) : ∀ n, n ≤ tl.length → spotT tl n = spotS (tl.take n) := by
  have key : ∀ n, n ≤ tl.length → ((Sc.mk tl 0 0 1 0 0 .none).go n).line = (tl.take n).count 10 + 1 ∧ ((Sc.mk tl 0 0 1 0 0 .none).go n).ls + tailLen (tl.take n) = n := by
    intro n
    induction n with
    | zero => intro _; exact ⟨rfl, rfl⟩
    | succ n ih =>
      intro hn
      obtain ⟨h1, h2⟩ := ih (by omega)
      have hs : tl.take (n + 1) = tl.take n ++ [tl[n]] := by rw [List.take_add_one, List.getElem?_eq_getElem (by omega)]; rfl
      have hsg : sg ((Sc.mk tl 0 0 1 0 0 .none).go n) 0 = [tl[n]] := by
        rw [go_sg]
        show (tl.drop n).take 1 = _
        rw [List.drop_eq_getElem_cons (by omega)]; rfl
      have hat : ((Sc.mk tl 0 0 1 0 0 .none).go n).at_ = n := by rw [go_at]; exact Nat.zero_add n
      show ((Sc.mk tl 0 0 1 0 0 .none).go n).step.line = _ ∧ ((Sc.mk tl 0 0 1 0 0 .none).go n).step.ls + _ = _
      rw [hs, tail_snoc, List.count_append]
      unfold Sc.step
      rw [hsg]
      by_cases h : tl[n] = 10
      · rw [if_pos (by rw [h]), if_pos h]
        refine ⟨?_, ?_⟩
        · show _ + 1 = _
          rw [h1, h]; simp
        · show _ + 1 + 0 = _
          rw [hat]
      · rw [if_neg (by simpa using h), if_neg h]
        refine ⟨?_, ?_⟩
        · show ((Sc.mk tl 0 0 1 0 0 .none).go n).line = _
          rw [h1]; simp [h]
        · show ((Sc.mk tl 0 0 1 0 0 .none).go n).ls + _ = _
          omega
  intro n hn
  obtain ⟨h1, h2⟩ := key n hn
  have hat : ((Sc.mk tl 0 0 1 0 0 .none).go n).at_ = n := by rw [go_at]; exact Nat.zero_add n
  unfold spotT Sc.spot spotS
  rw [h1, hat]
  refine Prod.ext ?_ ?_
  · show ((_ + 1 : Nat) : Int) = _; push_cast; rfl
  · show (n : Int) - _ + 1 = _; omega
/-- pieces and the signs between them -/
noncomputable def inter : List (List Nat) → List Nat
  | [] => []
  | [a] => a
  | a :: c :: r => a ++ 10 :: inter (c :: r)
theorem tw_cut : ∀ xs ys : List Nat, ((xs ++ 10 :: ys).takeWhile fun a => decide (a ≠ 10)) = xs.takeWhile fun a => decide (a ≠ 10)
  | [], ys => by simp
  | a :: xs, ys => by
    by_cases h : a = 10
    · simp [h]
    · rw [List.cons_append, List.takeWhile_cons, List.takeWhile_cons, if_pos (by simpa using h), if_pos (by simpa using h), tw_cut xs ys]
theorem tw_all : ∀ xs : List Nat, 10 ∉ xs → (xs.takeWhile fun a => decide (a ≠ 10)) = xs
  | [], _ => rfl
  | a :: xs, h => by
    have h1 : ¬ a = 10 := fun q => h (by rw [q]; exact List.mem_cons_self)
    rw [List.takeWhile_cons, if_pos (by simpa using h1), tw_all xs (fun q => h (List.mem_cons_of_mem _ q))]
theorem tail_cut (a r : List Nat) : tailLen (a ++ 10 :: r) = tailLen r := by
  unfold tailLen
  rw [List.reverse_append, List.reverse_cons, List.append_assoc, List.singleton_append, tw_cut]
theorem tail_free {a : List Nat} (h : 10 ∉ a) : tailLen a = a.length := by
  unfold tailLen
  rw [tw_all _ (by simpa using h), List.length_reverse]
theorem inter_spot : ∀ (ps : List (List Nat)) (z : List Nat), (∀ p ∈ ps ++ [z], 10 ∉ p) → (inter (ps ++ [z])).count 10 = ps.length ∧ tailLen (inter (ps ++ [z])) = z.length
  | [], z, h => ⟨List.count_eq_zero.mpr (h z (by simp)), tail_free (h z (by simp))⟩
  | [a], z, h => by
    have ha := h a (by simp)
    have hz := h z (by simp)
    show (a ++ 10 :: z).count 10 = 1 ∧ tailLen (a ++ 10 :: z) = _
    rw [tail_cut, tail_free hz, List.count_append, List.count_eq_zero.mpr ha, List.count_cons, List.count_eq_zero.mpr hz]
    exact ⟨rfl, rfl⟩
  | a :: c :: r, z, h => by
    have ha := h a (by simp)
    obtain ⟨h1, h2⟩ := inter_spot (c :: r) z (fun p hp => h p (List.mem_cons_of_mem _ hp))
    show (a ++ 10 :: inter (c :: r ++ [z])).count 10 = _ ∧ tailLen (a ++ 10 :: inter (c :: r ++ [z])) = _
    rw [tail_cut, h2, List.count_append, List.count_eq_zero.mpr ha, List.count_cons, h1]
    exact ⟨by simp, rfl⟩
noncomputable def menuL : List (List Nat) := [T "x", T "push!(a, 1)", T "begin y end", T "'q' + 0x1f", T "\"t$(f(2))\"", T "#= r =# z", T "[a[end] for a in b if c]", T "", T "f(x) do y z end"]
noncomputable def spL : List (List Nat × Option Nat) := [(T "\x07", some 0), (T "a `", some 2), (T ")", some 0), (T "[a)", some 2), (T "end", some 0), (T "u \"ab", some 2), (T "v #= w", some 2), (T "(a", none), (T "while b", none), (T "1.5", some 1), (T "0x", some 2), (T "'ab'", some 2), (T "\"a\\q\"", some 3), (T "\"$(g(\"", some 5)]
noncomputable def behL : List (List Nat) := [T "", T "x y\n", T "z + 1"]
noncomputable def lineT (p : Nat × Nat) : List Nat := menuL.getD p.1 [] ++ List.replicate p.2 32 ++ [10]
noncomputable def linesT (ls : List (Nat × Nat)) : List Nat := (ls.map lineT).flatten
noncomputable abbrev nx1 := nextG (putD 1)
theorem ln_00 (q : List Nat) : nextsR nx1 2 0 (lineT (0, 0) ++ q) [] false = some (2, q, [], false) := by kernel_rfl
theorem ln_01 (q : List Nat) : nextsR nx1 2 0 (lineT (0, 1) ++ q) [] false = some (3, q, [], false) := by kernel_rfl
theorem ln_02 (q : List Nat) : nextsR nx1 2 0 (lineT (0, 2) ++ q) [] false = some (4, q, [], false) := by kernel_rfl
theorem ln_10 (q : List Nat) : nextsR nx1 7 0 (lineT (1, 0) ++ q) [] false = some (12, q, [], false) := by kernel_rfl
theorem ln_11 (q : List Nat) : nextsR nx1 7 0 (lineT (1, 1) ++ q) [] false = some (13, q, [], false) := by kernel_rfl
theorem ln_12 (q : List Nat) : nextsR nx1 7 0 (lineT (1, 2) ++ q) [] false = some (14, q, [], false) := by kernel_rfl
theorem ln_20 (q : List Nat) : nextsR nx1 4 0 (lineT (2, 0) ++ q) [] false = some (12, q, [], false) := by kernel_rfl
theorem ln_21 (q : List Nat) : nextsR nx1 4 0 (lineT (2, 1) ++ q) [] false = some (13, q, [], false) := by kernel_rfl
theorem ln_22 (q : List Nat) : nextsR nx1 4 0 (lineT (2, 2) ++ q) [] false = some (14, q, [], false) := by kernel_rfl
theorem ln_30 (q : List Nat) : nextsR nx1 4 0 (lineT (3, 0) ++ q) [] false = some (11, q, [], false) := by kernel_rfl
theorem ln_31 (q : List Nat) : nextsR nx1 4 0 (lineT (3, 1) ++ q) [] false = some (12, q, [], false) := by kernel_rfl
theorem ln_32 (q : List Nat) : nextsR nx1 4 0 (lineT (3, 2) ++ q) [] false = some (13, q, [], false) := by kernel_rfl
theorem ln_40 (q : List Nat) : nextsR nx1 2 0 (lineT (4, 0) ++ q) [] false = some (11, q, [], false) := by kernel_rfl
theorem ln_41 (q : List Nat) : nextsR nx1 2 0 (lineT (4, 1) ++ q) [] false = some (12, q, [], false) := by kernel_rfl
theorem ln_42 (q : List Nat) : nextsR nx1 2 0 (lineT (4, 2) ++ q) [] false = some (13, q, [], false) := by kernel_rfl
theorem ln_50 (q : List Nat) : nextsR nx1 2 0 (lineT (5, 0) ++ q) [] false = some (10, q, [], false) := by kernel_rfl
theorem ln_51 (q : List Nat) : nextsR nx1 2 0 (lineT (5, 1) ++ q) [] false = some (11, q, [], false) := by kernel_rfl
theorem ln_52 (q : List Nat) : nextsR nx1 2 0 (lineT (5, 2) ++ q) [] false = some (12, q, [], false) := by kernel_rfl
theorem ln_60 (q : List Nat) : nextsR nx1 13 0 (lineT (6, 0) ++ q) [] false = some (25, q, [], false) := by kernel_rfl
theorem ln_61 (q : List Nat) : nextsR nx1 13 0 (lineT (6, 1) ++ q) [] false = some (26, q, [], false) := by kernel_rfl
theorem ln_62 (q : List Nat) : nextsR nx1 13 0 (lineT (6, 2) ++ q) [] false = some (27, q, [], false) := by kernel_rfl
theorem ln_70 (q : List Nat) : nextsR nx1 1 0 (lineT (7, 0) ++ q) [] false = some (1, q, [], false) := by kernel_rfl
theorem ln_71 (q : List Nat) : nextsR nx1 1 0 (lineT (7, 1) ++ q) [] false = some (2, q, [], false) := by kernel_rfl
theorem ln_72 (q : List Nat) : nextsR nx1 1 0 (lineT (7, 2) ++ q) [] false = some (3, q, [], false) := by kernel_rfl
theorem ln_80 (q : List Nat) : nextsR nx1 9 0 (lineT (8, 0) ++ q) [] false = some (16, q, [], false) := by kernel_rfl
theorem ln_81 (q : List Nat) : nextsR nx1 9 0 (lineT (8, 1) ++ q) [] false = some (17, q, [], false) := by kernel_rfl
theorem ln_82 (q : List Nat) : nextsR nx1 9 0 (lineT (8, 2) ++ q) [] false = some (18, q, [], false) := by kernel_rfl
theorem line_step {i j : Nat} (hi : i < 9) (hj : j < 3) : ∃ k, k ≤ 13 ∧ ∀ q, nextsR nx1 k 0 (lineT (i, j) ++ q) [] false = some ((lineT (i, j)).length, q, [], false) := by
  match i, j, hi, hj with
  | 0, 0, _, _ => exact ⟨2, by decide, fun q => (ln_00 q).trans (by kernel_rfl)⟩
  | 0, 1, _, _ => exact ⟨2, by decide, fun q => (ln_01 q).trans (by kernel_rfl)⟩
  | 0, 2, _, _ => exact ⟨2, by decide, fun q => (ln_02 q).trans (by kernel_rfl)⟩
  | 1, 0, _, _ => exact ⟨7, by decide, fun q => (ln_10 q).trans (by kernel_rfl)⟩
  | 1, 1, _, _ => exact ⟨7, by decide, fun q => (ln_11 q).trans (by kernel_rfl)⟩
  | 1, 2, _, _ => exact ⟨7, by decide, fun q => (ln_12 q).trans (by kernel_rfl)⟩
  | 2, 0, _, _ => exact ⟨4, by decide, fun q => (ln_20 q).trans (by kernel_rfl)⟩
  | 2, 1, _, _ => exact ⟨4, by decide, fun q => (ln_21 q).trans (by kernel_rfl)⟩
  | 2, 2, _, _ => exact ⟨4, by decide, fun q => (ln_22 q).trans (by kernel_rfl)⟩
  | 3, 0, _, _ => exact ⟨4, by decide, fun q => (ln_30 q).trans (by kernel_rfl)⟩
  | 3, 1, _, _ => exact ⟨4, by decide, fun q => (ln_31 q).trans (by kernel_rfl)⟩
  | 3, 2, _, _ => exact ⟨4, by decide, fun q => (ln_32 q).trans (by kernel_rfl)⟩
  | 4, 0, _, _ => exact ⟨2, by decide, fun q => (ln_40 q).trans (by kernel_rfl)⟩
  | 4, 1, _, _ => exact ⟨2, by decide, fun q => (ln_41 q).trans (by kernel_rfl)⟩
  | 4, 2, _, _ => exact ⟨2, by decide, fun q => (ln_42 q).trans (by kernel_rfl)⟩
  | 5, 0, _, _ => exact ⟨2, by decide, fun q => (ln_50 q).trans (by kernel_rfl)⟩
  | 5, 1, _, _ => exact ⟨2, by decide, fun q => (ln_51 q).trans (by kernel_rfl)⟩
  | 5, 2, _, _ => exact ⟨2, by decide, fun q => (ln_52 q).trans (by kernel_rfl)⟩
  | 6, 0, _, _ => exact ⟨13, by decide, fun q => (ln_60 q).trans (by kernel_rfl)⟩
  | 6, 1, _, _ => exact ⟨13, by decide, fun q => (ln_61 q).trans (by kernel_rfl)⟩
  | 6, 2, _, _ => exact ⟨13, by decide, fun q => (ln_62 q).trans (by kernel_rfl)⟩
  | 7, 0, _, _ => exact ⟨1, by decide, fun q => (ln_70 q).trans (by kernel_rfl)⟩
  | 7, 1, _, _ => exact ⟨1, by decide, fun q => (ln_71 q).trans (by kernel_rfl)⟩
  | 7, 2, _, _ => exact ⟨1, by decide, fun q => (ln_72 q).trans (by kernel_rfl)⟩
  | 8, 0, _, _ => exact ⟨9, by decide, fun q => (ln_80 q).trans (by kernel_rfl)⟩
  | 8, 1, _, _ => exact ⟨9, by decide, fun q => (ln_81 q).trans (by kernel_rfl)⟩
  | 8, 2, _, _ => exact ⟨9, by decide, fun q => (ln_82 q).trans (by kernel_rfl)⟩
noncomputable def isE : Oc → Nat → Bool
  | .err n, m => decide (n = m)
  | _, _ => false
noncomputable def isK : Oc → Bool
  | .ok => true
  | _ => false
theorem sp_0_0 : isE (scanR nx1 40 ((spL.getD 0 ([], none)).1 ++ 10 :: behL.getD 0 []) [] false) 0 = true := by decide +kernel
theorem sp_0_1 : isE (scanR nx1 40 ((spL.getD 0 ([], none)).1 ++ 10 :: behL.getD 1 []) [] false) 0 = true := by decide +kernel
theorem sp_0_2 : isE (scanR nx1 40 ((spL.getD 0 ([], none)).1 ++ 10 :: behL.getD 2 []) [] false) 0 = true := by decide +kernel
theorem sp_1_0 : isE (scanR nx1 40 ((spL.getD 1 ([], none)).1 ++ 10 :: behL.getD 0 []) [] false) 2 = true := by decide +kernel
theorem sp_1_1 : isE (scanR nx1 40 ((spL.getD 1 ([], none)).1 ++ 10 :: behL.getD 1 []) [] false) 2 = true := by decide +kernel
theorem sp_1_2 : isE (scanR nx1 40 ((spL.getD 1 ([], none)).1 ++ 10 :: behL.getD 2 []) [] false) 2 = true := by decide +kernel
theorem sp_2_0 : isE (scanR nx1 40 ((spL.getD 2 ([], none)).1 ++ 10 :: behL.getD 0 []) [] false) 0 = true := by decide +kernel
theorem sp_2_1 : isE (scanR nx1 40 ((spL.getD 2 ([], none)).1 ++ 10 :: behL.getD 1 []) [] false) 0 = true := by decide +kernel
theorem sp_2_2 : isE (scanR nx1 40 ((spL.getD 2 ([], none)).1 ++ 10 :: behL.getD 2 []) [] false) 0 = true := by decide +kernel
theorem sp_3_0 : isE (scanR nx1 40 ((spL.getD 3 ([], none)).1 ++ 10 :: behL.getD 0 []) [] false) 2 = true := by decide +kernel
theorem sp_3_1 : isE (scanR nx1 40 ((spL.getD 3 ([], none)).1 ++ 10 :: behL.getD 1 []) [] false) 2 = true := by decide +kernel
theorem sp_3_2 : isE (scanR nx1 40 ((spL.getD 3 ([], none)).1 ++ 10 :: behL.getD 2 []) [] false) 2 = true := by decide +kernel
theorem sp_4_0 : isE (scanR nx1 40 ((spL.getD 4 ([], none)).1 ++ 10 :: behL.getD 0 []) [] false) 0 = true := by decide +kernel
theorem sp_4_1 : isE (scanR nx1 40 ((spL.getD 4 ([], none)).1 ++ 10 :: behL.getD 1 []) [] false) 0 = true := by decide +kernel
theorem sp_4_2 : isE (scanR nx1 40 ((spL.getD 4 ([], none)).1 ++ 10 :: behL.getD 2 []) [] false) 0 = true := by decide +kernel
theorem sp_5_0 : isE (scanR nx1 40 ((spL.getD 5 ([], none)).1 ++ 10 :: behL.getD 0 []) [] false) 2 = true := by decide +kernel
theorem sp_5_1 : isE (scanR nx1 40 ((spL.getD 5 ([], none)).1 ++ 10 :: behL.getD 1 []) [] false) 2 = true := by decide +kernel
theorem sp_5_2 : isE (scanR nx1 40 ((spL.getD 5 ([], none)).1 ++ 10 :: behL.getD 2 []) [] false) 2 = true := by decide +kernel
theorem sp_6_0 : isE (scanR nx1 40 ((spL.getD 6 ([], none)).1 ++ 10 :: behL.getD 0 []) [] false) 2 = true := by decide +kernel
theorem sp_6_1 : isE (scanR nx1 40 ((spL.getD 6 ([], none)).1 ++ 10 :: behL.getD 1 []) [] false) 2 = true := by decide +kernel
theorem sp_6_2 : isE (scanR nx1 40 ((spL.getD 6 ([], none)).1 ++ 10 :: behL.getD 2 []) [] false) 2 = true := by decide +kernel
theorem sp_7_0 : isE (scanR nx1 40 ((spL.getD 7 ([], none)).1 ++ 10 :: behL.getD 0 []) [] false) 3 = true := by decide +kernel
theorem sp_7_1 : isE (scanR nx1 40 ((spL.getD 7 ([], none)).1 ++ 10 :: behL.getD 1 []) [] false) 7 = true := by decide +kernel
theorem sp_7_2 : isE (scanR nx1 40 ((spL.getD 7 ([], none)).1 ++ 10 :: behL.getD 2 []) [] false) 8 = true := by decide +kernel
theorem sp_8_0 : isE (scanR nx1 40 ((spL.getD 8 ([], none)).1 ++ 10 :: behL.getD 0 []) [] false) 8 = true := by decide +kernel
theorem sp_8_1 : isE (scanR nx1 40 ((spL.getD 8 ([], none)).1 ++ 10 :: behL.getD 1 []) [] false) 12 = true := by decide +kernel
theorem sp_8_2 : isE (scanR nx1 40 ((spL.getD 8 ([], none)).1 ++ 10 :: behL.getD 2 []) [] false) 13 = true := by decide +kernel
theorem sp_9_0 : isE (scanR nx1 40 ((spL.getD 9 ([], none)).1 ++ 10 :: behL.getD 0 []) [] false) 1 = true := by decide +kernel
theorem sp_9_1 : isE (scanR nx1 40 ((spL.getD 9 ([], none)).1 ++ 10 :: behL.getD 1 []) [] false) 1 = true := by decide +kernel
theorem sp_9_2 : isE (scanR nx1 40 ((spL.getD 9 ([], none)).1 ++ 10 :: behL.getD 2 []) [] false) 1 = true := by decide +kernel
theorem sp_10_0 : isE (scanR nx1 40 ((spL.getD 10 ([], none)).1 ++ 10 :: behL.getD 0 []) [] false) 2 = true := by decide +kernel
theorem sp_10_1 : isE (scanR nx1 40 ((spL.getD 10 ([], none)).1 ++ 10 :: behL.getD 1 []) [] false) 2 = true := by decide +kernel
theorem sp_10_2 : isE (scanR nx1 40 ((spL.getD 10 ([], none)).1 ++ 10 :: behL.getD 2 []) [] false) 2 = true := by decide +kernel
theorem sp_11_0 : isE (scanR nx1 40 ((spL.getD 11 ([], none)).1 ++ 10 :: behL.getD 0 []) [] false) 2 = true := by decide +kernel
theorem sp_11_1 : isE (scanR nx1 40 ((spL.getD 11 ([], none)).1 ++ 10 :: behL.getD 1 []) [] false) 2 = true := by decide +kernel
theorem sp_11_2 : isE (scanR nx1 40 ((spL.getD 11 ([], none)).1 ++ 10 :: behL.getD 2 []) [] false) 2 = true := by decide +kernel
theorem sp_12_0 : isE (scanR nx1 40 ((spL.getD 12 ([], none)).1 ++ 10 :: behL.getD 0 []) [] false) 3 = true := by decide +kernel
theorem sp_12_1 : isE (scanR nx1 40 ((spL.getD 12 ([], none)).1 ++ 10 :: behL.getD 1 []) [] false) 3 = true := by decide +kernel
theorem sp_12_2 : isE (scanR nx1 40 ((spL.getD 12 ([], none)).1 ++ 10 :: behL.getD 2 []) [] false) 3 = true := by decide +kernel
theorem sp_13_0 : isE (scanR nx1 40 ((spL.getD 13 ([], none)).1 ++ 10 :: behL.getD 0 []) [] false) 5 = true := by decide +kernel
theorem sp_13_1 : isE (scanR nx1 40 ((spL.getD 13 ([], none)).1 ++ 10 :: behL.getD 1 []) [] false) 5 = true := by decide +kernel
theorem sp_13_2 : isE (scanR nx1 40 ((spL.getD 13 ([], none)).1 ++ 10 :: behL.getD 2 []) [] false) 5 = true := by decide +kernel
theorem bh_0 : isK (scanR nx1 40 (10 :: behL.getD 0 []) [] false) = true := by decide +kernel
theorem bh_1 : isK (scanR nx1 40 (10 :: behL.getD 1 []) [] false) = true := by decide +kernel
theorem bh_2 : isK (scanR nx1 40 (10 :: behL.getD 2 []) [] false) = true := by decide +kernel

theorem lines_scan : ∀ (ls : List (Nat × Nat)), (∀ p ∈ ls, p.1 < 9 ∧ p.2 < 3) → ∀ (f : Nat) (q : List Nat), scanR nx1 f q [] false ≠ .un →
    scanR nx1 (f + 13 * ls.length) (linesT ls ++ q) [] false = (scanR nx1 f q [] false).sh (linesT ls).length
  | [], _, f, q, h => by
    show scanR nx1 f q [] false = _
    cases scanR nx1 f q [] false <;> simp [Oc.sh, linesT]
  | p :: ls, hp, f, q, h => by
    obtain ⟨i, j⟩ := p
    obtain ⟨hi, hj⟩ := hp (i, j) List.mem_cons_self
    obtain ⟨k, hk, hn⟩ := line_step hi hj
    have ih := lines_scan ls (fun p hp' => hp p (List.mem_cons_of_mem _ hp')) f q h
    have hne : scanR nx1 (f + 13 * ls.length) (linesT ls ++ q) [] false ≠ .un := by
      rw [ih]; intro z; cases hs : scanR nx1 f q [] false <;> rw [hs] at z h <;> first | exact h rfl | cases z
    have e1 := nexts_scan k 0 (lineT (i, j) ++ (linesT ls ++ q)) [] false _ _ _ _ (f + 13 * ls.length) (hn (linesT ls ++ q))
    have e2 : linesT ((i, j) :: ls) ++ q = lineT (i, j) ++ (linesT ls ++ q) := by unfold linesT; simp
    have e3 : (scanR nx1 (f + 13 * ls.length + k) (lineT (i, j) ++ (linesT ls ++ q)) [] false) = (scanR nx1 (f + 13 * ls.length) (linesT ls ++ q) [] false).sh (lineT (i, j)).length := by
      rw [← e1]; cases scanR nx1 (f + 13 * ls.length + k) (lineT (i, j) ++ (linesT ls ++ q)) [] false <;> simp [Oc.sh]
    have hne2 : scanR nx1 (f + 13 * ls.length + k) (lineT (i, j) ++ (linesT ls ++ q)) [] false ≠ .un := by
      rw [e3]; intro z; cases hs : scanR nx1 (f + 13 * ls.length) (linesT ls ++ q) [] false <;> rw [hs] at z hne <;> first | exact hne rfl | cases z
    rw [e2, show f + 13 * ((i, j) :: ls).length = f + 13 * ls.length + k + (13 - k) by rw [List.length_cons]; omega, scan_more _ _ _ _ _ hne2, e3, ih, sh_sh]
    congr 1
    unfold linesT; simp
theorem isE_eq {x : Oc} {n : Nat} (h : isE x n = true) : x = .err n := by
  cases x <;> first | (cases h; done) | (have := of_decide_eq_true h; rw [this])
theorem isK_eq {x : Oc} (h : isK x = true) : x = .ok := by cases x <;> first | rfl | cases h
/-- where a text breaks off, as the law tells it -/
noncomputable def offL (t : List Nat) : Option Nat → Nat
  | none => t.length
  | some k => k
theorem spoilt_scan {i j : Nat} (hi : i < 14) (hj : j < 3) : scanR nx1 40 ((spL.getD i ([], none)).1 ++ 10 :: behL.getD j []) [] false = .err (offL ((spL.getD i ([], none)).1 ++ 10 :: behL.getD j []) (spL.getD i ([], none)).2) := by
  match i, j, hi, hj with
  | 0, 0, _, _ => exact (isE_eq sp_0_0).trans (by kernel_rfl)
  | 0, 1, _, _ => exact (isE_eq sp_0_1).trans (by kernel_rfl)
  | 0, 2, _, _ => exact (isE_eq sp_0_2).trans (by kernel_rfl)
  | 1, 0, _, _ => exact (isE_eq sp_1_0).trans (by kernel_rfl)
  | 1, 1, _, _ => exact (isE_eq sp_1_1).trans (by kernel_rfl)
  | 1, 2, _, _ => exact (isE_eq sp_1_2).trans (by kernel_rfl)
  | 2, 0, _, _ => exact (isE_eq sp_2_0).trans (by kernel_rfl)
  | 2, 1, _, _ => exact (isE_eq sp_2_1).trans (by kernel_rfl)
  | 2, 2, _, _ => exact (isE_eq sp_2_2).trans (by kernel_rfl)
  | 3, 0, _, _ => exact (isE_eq sp_3_0).trans (by kernel_rfl)
  | 3, 1, _, _ => exact (isE_eq sp_3_1).trans (by kernel_rfl)
  | 3, 2, _, _ => exact (isE_eq sp_3_2).trans (by kernel_rfl)
  | 4, 0, _, _ => exact (isE_eq sp_4_0).trans (by kernel_rfl)
  | 4, 1, _, _ => exact (isE_eq sp_4_1).trans (by kernel_rfl)
  | 4, 2, _, _ => exact (isE_eq sp_4_2).trans (by kernel_rfl)
  | 5, 0, _, _ => exact (isE_eq sp_5_0).trans (by kernel_rfl)
  | 5, 1, _, _ => exact (isE_eq sp_5_1).trans (by kernel_rfl)
  | 5, 2, _, _ => exact (isE_eq sp_5_2).trans (by kernel_rfl)
  | 6, 0, _, _ => exact (isE_eq sp_6_0).trans (by kernel_rfl)
  | 6, 1, _, _ => exact (isE_eq sp_6_1).trans (by kernel_rfl)
  | 6, 2, _, _ => exact (isE_eq sp_6_2).trans (by kernel_rfl)
  | 7, 0, _, _ => exact (isE_eq sp_7_0).trans (by kernel_rfl)
  | 7, 1, _, _ => exact (isE_eq sp_7_1).trans (by kernel_rfl)
  | 7, 2, _, _ => exact (isE_eq sp_7_2).trans (by kernel_rfl)
  | 8, 0, _, _ => exact (isE_eq sp_8_0).trans (by kernel_rfl)
  | 8, 1, _, _ => exact (isE_eq sp_8_1).trans (by kernel_rfl)
  | 8, 2, _, _ => exact (isE_eq sp_8_2).trans (by kernel_rfl)
  | 9, 0, _, _ => exact (isE_eq sp_9_0).trans (by kernel_rfl)
  | 9, 1, _, _ => exact (isE_eq sp_9_1).trans (by kernel_rfl)
  | 9, 2, _, _ => exact (isE_eq sp_9_2).trans (by kernel_rfl)
  | 10, 0, _, _ => exact (isE_eq sp_10_0).trans (by kernel_rfl)
  | 10, 1, _, _ => exact (isE_eq sp_10_1).trans (by kernel_rfl)
  | 10, 2, _, _ => exact (isE_eq sp_10_2).trans (by kernel_rfl)
  | 11, 0, _, _ => exact (isE_eq sp_11_0).trans (by kernel_rfl)
  | 11, 1, _, _ => exact (isE_eq sp_11_1).trans (by kernel_rfl)
  | 11, 2, _, _ => exact (isE_eq sp_11_2).trans (by kernel_rfl)
  | 12, 0, _, _ => exact (isE_eq sp_12_0).trans (by kernel_rfl)
  | 12, 1, _, _ => exact (isE_eq sp_12_1).trans (by kernel_rfl)
  | 12, 2, _, _ => exact (isE_eq sp_12_2).trans (by kernel_rfl)
  | 13, 0, _, _ => exact (isE_eq sp_13_0).trans (by kernel_rfl)
  | 13, 1, _, _ => exact (isE_eq sp_13_1).trans (by kernel_rfl)
  | 13, 2, _, _ => exact (isE_eq sp_13_2).trans (by kernel_rfl)
theorem behind_scan {j : Nat} (hj : j < 3) : scanR nx1 40 (10 :: behL.getD j []) [] false = .ok := by
  match j, hj with
  | 0, _ => exact isK_eq bh_0
  | 1, _ => exact isK_eq bh_1
  | 2, _ => exact isK_eq bh_2

theorem lineT_len {i j : Nat} (hi : i < 9) (hj : j < 3) : (lineT (i, j)).length ≤ 40 := by
  match i, j, hi, hj with
  | 0, 0, _, _ => decide +kernel
  | 0, 1, _, _ => decide +kernel
  | 0, 2, _, _ => decide +kernel
  | 1, 0, _, _ => decide +kernel
  | 1, 1, _, _ => decide +kernel
  | 1, 2, _, _ => decide +kernel
  | 2, 0, _, _ => decide +kernel
  | 2, 1, _, _ => decide +kernel
  | 2, 2, _, _ => decide +kernel
  | 3, 0, _, _ => decide +kernel
  | 3, 1, _, _ => decide +kernel
  | 3, 2, _, _ => decide +kernel
  | 4, 0, _, _ => decide +kernel
  | 4, 1, _, _ => decide +kernel
  | 4, 2, _, _ => decide +kernel
  | 5, 0, _, _ => decide +kernel
  | 5, 1, _, _ => decide +kernel
  | 5, 2, _, _ => decide +kernel
  | 6, 0, _, _ => decide +kernel
  | 6, 1, _, _ => decide +kernel
  | 6, 2, _, _ => decide +kernel
  | 7, 0, _, _ => decide +kernel
  | 7, 1, _, _ => decide +kernel
  | 7, 2, _, _ => decide +kernel
  | 8, 0, _, _ => decide +kernel
  | 8, 1, _, _ => decide +kernel
  | 8, 2, _, _ => decide +kernel
theorem linesT_len : ∀ (ls : List (Nat × Nat)), (∀ p ∈ ls, p.1 < 9 ∧ p.2 < 3) → (linesT ls).length ≤ 40 * ls.length
  | [], _ => Nat.le_refl _
  | (i, j) :: ls, h => by
    have h1 : (lineT (i, j)).length ≤ 40 := lineT_len (h (i, j) List.mem_cons_self).1 (h (i, j) List.mem_cons_self).2
    have h2 := linesT_len ls (fun p hp => h p (List.mem_cons_of_mem _ hp))
    unfold linesT at *
    simp only [List.map_cons, List.flatten_cons, List.length_append, List.length_cons]
    omega
theorem behL_len {j : Nat} (hj : j < 3) : (behL.getD j []).length ≤ 5 := by
  match j, hj with
  | 0, _ => decide +kernel
  | 1, _ => decide +kernel
  | 2, _ => decide +kernel
theorem spL_len {i : Nat} (hi : i < 14) : (spL.getD i ([], none)).1.length ≤ 8 := by
  match i, hi with
  | 0, _ => decide +kernel
  | 1, _ => decide +kernel
  | 2, _ => decide +kernel
  | 3, _ => decide +kernel
  | 4, _ => decide +kernel
  | 5, _ => decide +kernel
  | 6, _ => decide +kernel
  | 7, _ => decide +kernel
  | 8, _ => decide +kernel
  | 9, _ => decide +kernel
  | 10, _ => decide +kernel
  | 11, _ => decide +kernel
  | 12, _ => decide +kernel
  | 13, _ => decide +kernel
section
variable {ls : List (Nat × Nat)} {i j : Nat}
theorem law2_err (hls : ∀ p ∈ ls, p.1 < 9 ∧ p.2 < 3) (h3 : ls.length ≤ 3) (hi : i < 14) (hj : j < 3) :
    fg (wordsS nx1 (linesT ls ++ ((spL.getD i ([], none)).1 ++ 10 :: behL.getD j []))) = .err ((linesT ls).length + offL ((spL.getD i ([], none)).1 ++ 10 :: behL.getD j []) (spL.getD i ([], none)).2) := by
  have e := spoilt_scan hi hj
  have e1 := lines_scan ls hls 40 _ (by rw [e]; intro z; cases z)
  rw [e] at e1
  have l1 := linesT_len ls hls
  have l2 := behL_len hj
  have l3 := spL_len hi
  have hk : scanR nx1 ((linesT ls ++ ((spL.getD i ([], none)).1 ++ 10 :: behL.getD j [])).length + 1000) (linesT ls ++ ((spL.getD i ([], none)).1 ++ 10 :: behL.getD j [])) [] false
      = .err ((linesT ls).length + offL ((spL.getD i ([], none)).1 ++ 10 :: behL.getD j []) (spL.getD i ([], none)).2) := by
    have := scan_more (nx := nx1) (40 + 13 * ls.length) ((linesT ls ++ ((spL.getD i ([], none)).1 ++ 10 :: behL.getD j [])).length + 1000 - (40 + 13 * ls.length)) (linesT ls ++ ((spL.getD i ([], none)).1 ++ 10 :: behL.getD j [])) [] false (by rw [e1]; intro z; cases z)
    rw [e1, show 40 + 13 * ls.length + ((linesT ls ++ ((spL.getD i ([], none)).1 ++ 10 :: behL.getD j [])).length + 1000 - (40 + 13 * ls.length)) = (linesT ls ++ ((spL.getD i ([], none)).1 ++ 10 :: behL.getD j [])).length + 1000 by omega] at this
    exact this
  rw [words_scan (by simp only [List.length_append, List.length_cons]; omega) (by rw [hk]; intro z; cases z), hk]
theorem law2_ok (hls : ∀ p ∈ ls, p.1 < 9 ∧ p.2 < 3) (h3 : ls.length ≤ 3) (hj : j < 3) : fg (wordsS nx1 (linesT ls ++ 10 :: behL.getD j [])) = .ok := by
  have e := behind_scan hj
  have e1 := lines_scan ls hls 40 _ (by rw [e]; intro z; cases z)
  rw [e] at e1
  have l1 := linesT_len ls hls
  have l2 := behL_len hj
  have hk : scanR nx1 ((linesT ls ++ 10 :: behL.getD j []).length + 1000) (linesT ls ++ 10 :: behL.getD j []) [] false = .ok := by
    have := scan_more (nx := nx1) (40 + 13 * ls.length) ((linesT ls ++ 10 :: behL.getD j []).length + 1000 - (40 + 13 * ls.length)) (linesT ls ++ 10 :: behL.getD j []) [] false (by rw [e1]; intro z; cases z)
    rw [e1, show 40 + 13 * ls.length + ((linesT ls ++ 10 :: behL.getD j []).length + 1000 - (40 + 13 * ls.length)) = (linesT ls ++ 10 :: behL.getD j []).length + 1000 by omega] at this
    exact this
  rw [words_scan (by simp only [List.length_append, List.length_cons]; omega) (by rw [hk]; intro z; cases z), hk]
end
theorem fix_1 : isE (fg (wordsS nx1 (T "a\n \"bc\n"))) 3 = true := by decide +kernel
theorem fix_2 : isE (fg (wordsS nx1 (T "a\n (bc\n"))) 7 = true := by decide +kernel
theorem fix_3 : isE (fg (wordsS nx1 (T "''"))) 1 = true := by decide +kernel
section
variable {prog : Program} {w : World} {M : Model} {A : Around} {E : Value → Shared → Prop} {b : Bs} {s : Shared} {l : Led} {name : Str} {scope : Scope} {L f : Addr} {cd : Value} {pos : Pos} {Q : Value → Shared → Prop}
theorem gl_law_crate (X : Wd (KK w) b) (S : St b s l) (hk : globOk scope "_law_crate" = true) (h : Q (.ref 307) s) : wpAny M A (eval (.Name "_law_crate" pos) (envOf name scope L f cd)) Q E s := r_glo X S (by kernel_rfl) hk h
theorem gl_law_unpack (X : Wd (KK w) b) (S : St b s l) (hk : globOk scope "_law_unpack" = true) (h : Q (.ref 314) s) : wpAny M A (eval (.Name "_law_unpack" pos) (envOf name scope L f cd)) Q E s := r_glo X S (by kernel_rfl) hk h
theorem gl_law_lines (X : Wd (KK w) b) (S : St b s l) (hk : globOk scope "_law_lines" = true) (h : Q (.ref 319) s) : wpAny M A (eval (.Name "_law_lines" pos) (envOf name scope L f cd)) Q E s := r_glo X S (by kernel_rfl) hk h
theorem gl_law_spoilt (X : Wd (KK w) b) (S : St b s l) (hk : globOk scope "_law_spoilt" = true) (h : Q (.ref 326) s) : wpAny M A (eval (.Name "_law_spoilt" pos) (envOf name scope L f cd)) Q E s := r_glo X S (by kernel_rfl) hk h
theorem gl_law_spot (X : Wd (KK w) b) (S : St b s l) (hk : globOk scope "_law_spot" = true) (h : Q (.ref 333) s) : wpAny M A (eval (.Name "_law_spot" pos) (envOf name scope L f cd)) Q E s := r_glo X S (by kernel_rfl) hk h
theorem gl_law_fault (X : Wd (KK w) b) (S : St b s l) (hk : globOk scope "_law_fault" = true) (h : Q (.ref 340) s) : wpAny M A (eval (.Name "_law_fault" pos) (envOf name scope L f cd)) Q E s := r_glo X S (by kernel_rfl) hk h
theorem gl_max (X : Wd (KK w) b) (S : St b s l) (hk : globOk scope "max" = true) (h : Q (.builtin "max") s) : wpAny M A (eval (.Name "max" pos) (envOf name scope L f cd)) Q E s := r_blt X S (v := .builtin "max") (by kernel_rfl) (by decide +kernel) (by decide) hk h
theorem gl_min (X : Wd (KK w) b) (S : St b s l) (hk : globOk scope "min" = true) (h : Q (.builtin "min") s) : wpAny M A (eval (.Name "min" pos) (envOf name scope L f cd)) Q E s := r_blt X S (v := .builtin "min") (by kernel_rfl) (by decide +kernel) (by decide) hk h
end
theorem words_m0_gl2 : True := by
 (k_with "na.m0_gl20" => first
  | (focus ((with_reducible refine' gl_law_crate ?_ ?_ ?_ ?_); (rotate_right 4); (· with_reducible assumption); (· with_reducible assumption); (· kernel_rfl)))
  | (focus ((with_reducible refine' gl_law_unpack ?_ ?_ ?_ ?_); (rotate_right 4); (· with_reducible assumption); (· with_reducible assumption); (· kernel_rfl)))
  | (focus ((with_reducible refine' gl_law_lines ?_ ?_ ?_ ?_); (rotate_right 4); (· with_reducible assumption); (· with_reducible assumption); (· kernel_rfl)))
  | (focus ((with_reducible refine' gl_law_spoilt ?_ ?_ ?_ ?_); (rotate_right 4); (· with_reducible assumption); (· with_reducible assumption); (· kernel_rfl)))
  | (focus ((with_reducible refine' gl_law_spot ?_ ?_ ?_ ?_); (rotate_right 4); (· with_reducible assumption); (· with_reducible assumption); (· kernel_rfl)))
  | (focus ((with_reducible refine' gl_law_fault ?_ ?_ ?_ ?_); (rotate_right 4); (· with_reducible assumption); (· with_reducible assumption); (· kernel_rfl)))
  | (focus ((with_reducible refine' gl_max ?_ ?_ ?_ ?_); (rotate_right 4); (· with_reducible assumption); (· with_reducible assumption); (· kernel_rfl)))
  | (focus ((with_reducible refine' gl_min ?_ ?_ ?_ ?_); (rotate_right 4); (· with_reducible assumption); (· with_reducible assumption); (· kernel_rfl)))
  | fail "none")
 trivial
local macro_rules
  | `(tactic| k_extra "na") => `(tactic| k_extra "na.m0_gl20")
section
variable {prog : Program} {w : World} {A : Around} {E : Value → Shared → Prop} {b : Bs} {s : Shared} {l l' : Led} {c sc : Addr} {Q : Value → Shared → Prop}
theorem unpack_c {k : Nat} {i : Int} {t : Tok} {args : List Value} (X : Wd (KK w) b) (S : St b s l) (D : Del l c (crt 65407) l') (hr : Room A 1) (hk : i = (k : Int)) (hk1 : 1 ≤ k) (hk2 : k ≤ 1000) (ha : args = [.ref c, .int i t])
    (h : ∀ (n : Nat) t s', n < k → St b s' ((c, crt 65407) :: l') → Q (.int (n : Nat) t) s') : wpAny (model prog w) A (call (.ref 314) args) Q E s := by
  subst ha hk
  have hm0 : (k : Int) ≠ 0 := by omega
  have hm1 : (k : Int).natAbs < 1073741824 := by omega
  obtain ⟨i, j, ti, tj, hi, hj, S0⟩ := crt_open (S.del D)
  clear S D
  have fin : ∀ (q : Int) (t : Tok) (s' : Shared), 0 ≤ q → St b s' ((c, crt 65407) :: l') → Q (.int (q.fmod k) t) s' := fun q t s' hq S' => by
    have h1 := Int.fmod_nonneg_of_pos q (show (0 : Int) < k by omega)
    have h2 := Int.fmod_lt_of_pos q (show (0 : Int) < k by omega)
    have h3 : q.fmod k = ((q.fmod k).toNat : Int) := (Int.toNat_of_nonneg h1).symm
    rw [h3]
    exact h _ _ _ (by omega) S'
  k_extra "enter"
  rename_i L S1
  k_extra "w"
  refine w_ite (fun hc => ?_) (fun hc => ?_)
  · have hc' := of_decide_eq_true hc
    k_extra "w"
    rename Shared => s2
    refine fin i _ _ hi ?_
    have h2 : 0 ≤ i.fdiv k := Int.fdiv_nonneg hi (by omega)
    refine' crt_close2 (i := i.fdiv k) (j := j) ?st ?hv h2 hj
    rotate_left 3
    case st => k_extra "st!"
    case hv => rfl
  · have e1 : (j : Int) * 149 + 11003 = ((j * 149 + 11003 : Nat) : Int) := by push_cast; rfl
    have f1 : ((j : Int) * 149 + 11003).fmod 65407 = (((j * 149 + 11003) % 65407 : Nat) : Int) := fmod_of _ 65407 e1 rfl
    k_extra "w"
    rw [f1]
    refine fin _ _ _ (Int.fdiv_nonneg (by omega) (by decide)) ?_
    refine' crt_close2 (i := i) (j := (j * 149 + 11003) % 65407) ?st ?hv hi (Nat.mod_lt _ (by decide))
    rotate_left 3
    case st => k_extra "st!"
    case hv => rw [← f1]; rfl
theorem len_ints {vs : List Value} {ns : List Int} (h : IntsAre vs ns) {k : Nat} {v : Value} (hv : vs[k]? = some v) : ∃ i t, v = .int i t := by
  induction h generalizing k with
  | nil => simp at hv
  | cons n t _ ih =>
    cases k with
    | zero => simp at hv; exact ⟨_, _, hv.symm⟩
    | succ k => exact ih (by simpa using hv)
theorem crate_c {k : Nat} {vs : List Value} {ns : List Int} {i : Int} {t : Tok} {args : List Value} (X : Wd (KK w) b) (S : St b s l) (hl : b.B.IsList sc vs.toArray) (hns : IntsAre vs ns) (hz : vs.length ≤ 1048576) (hr : Room A 1) (hk : i = (k : Int)) (hk1 : k ≤ 100) (ha : args = [.ref sc, .int i t])
    (h : ∀ c s', St b s' ((c, crt 65407) :: l) → Q (.ref c) s') : wpAny (model prog w) A (call (.ref 307) args) Q E s := by
  subst ha hk
  k_extra "enter"
  rename_i L S1
  refine execs_cut (fun s => ∃ j m u1 u2, (m "jute" = some (.int j u1) ∧ m "turn" = some (.int k u2)) ∧ St b s ((L, fr m) :: l)) ?p1 ?p2
  case p1 =>
    k_extra "w"
    refine w_ite (fun hc => ?_) (fun hc => ?_)
    · have hlt : k < vs.length := by have := of_decide_eq_true hc; omega
      obtain ⟨j, tj, hj⟩ := len_ints hns (List.getElem?_eq_getElem hlt)
      k_extra "w"
      refine r_itemB (by assumption) hl rfl (List.getElem?_eq_getElem hlt) (by omega) ?_ (by with_unfolding_all rfl)
      rw [hj]
      k_extra "w"
      refine' ⟨rfl, _, _, _, _, ⟨?m1, ?m2⟩, ?st⟩
      case st => k_extra "st!"
      case m1 => k_extra "nm"
      case m2 => k_extra "nm"
    · k_extra "w"
      refine' ⟨rfl, _, _, _, _, ⟨?m1, ?m2⟩, ?st⟩
      case st => k_extra "st!"
      case m1 => k_extra "nm"
      case m2 => k_extra "nm"
  case p2 =>
    rintro s2 ⟨j, m, u1, u2, ⟨m1, m2⟩, S2⟩
    refine execs_cut (fun s => ∃ j m u1 u2, 0 ≤ j ∧ (m "bulk" = some (.int j u1) ∧ m "turn" = some (.int k u2)) ∧ St b s ((L, fr m) :: l)) ?q1 ?q2
    case q1 =>
      k_extra "w"
      refine w_ite (fun hc => ?_) (fun hc => ?_)
      · have hc' := of_decide_eq_true hc
        k_extra "w"
        refine' ⟨rfl, j, _, _, _, hc', ⟨?m1, ?m2⟩, ?st⟩
        case st => k_extra "st!"
        case m1 => k_extra "nm"
        case m2 => k_extra "nm"
      · have hc' := of_decide_eq_false hc
        k_extra "w"
        refine' ⟨rfl, 5 - j, _, _, _, by omega, ⟨?m1, ?m2⟩, ?st⟩
        case st => k_extra "st!"
        case m1 => k_extra "nm"
        case m2 => k_extra "nm"
    case q2 =>
      rintro s3 ⟨j, m, u1, u2, hj, ⟨m1, m2⟩, S3⟩
      k_extra "w"
      refine w_ite (fun hc => ?_) (fun hc => ?_)
      · k_extra "w"
        refine' h _ _ (crt_made (N := 65407) (i := j) ?st ?hM hj (by decide))
        rotate_left 4
        case st => k_extra "st!"
        case hM => rfl
      · k_extra "w"
        refine' h _ _ (crt_made (N := 65407) (i := 0) ?st ?hM (by decide) (by decide))
        rotate_left 4
        case st => k_extra "st!"
        case hM => rfl
end
section
variable {prog : Program} {w : World} {M : Model} {A : Around} {E : Value → Shared → Prop} {b : Bs} {s : Shared} {l l' : Led} {a : Addr} {ms : List (List Nat)} {env : Env} {pos : Pos} {x : Str} {t u : Tok}
theorem m_item {value slice : Expr} {k : Int} {j : Nat} {Q : Value → Shared → Prop} (S : St b s l) (G : (a, mk ms) ∈ l) (hk : k = (j : Int)) (hj : j < ms.length) (hj2 : ms.length ≤ 1000) (h : ∀ t, Q (.str (tx (ms.getD j [])) t) s)
    (hs : subscripted slice false (.ref a) (.int k u) = operate [.ref a, .int k u] (getItem (.ref a) (.int k u))) : wpAny (model prog w) A (subscriptTail value slice (.ref a) (.int k u)) Q E s := by
  subst hk
  obtain ⟨ps, e, hl⟩ := mk_at S G
  subst e
  have hj' : j < ps.length := by simpa using hj
  refine tl_list ⟨_, hl⟩ (wpAny_getItem_list (x := .str (tx ps[j].1) ps[j].2) hl (by omega) (by simp at hj2; omega) (by simp [txs, hj']) ?_) hs
  have := h ps[j].2
  rw [List.getD_eq_getElem?_getD, List.getElem?_map, List.getElem?_eq_getElem hj'] at this
  exact this
noncomputable def tokOf : Value → Tok
  | .str _ t => t
  | _ => 0
theorem lst_mk {vs : List Value} {o : Obj} (h1 : vs.all isStrV = true) (h2 : vs.map strOf = ms) (h : lst vs o) : mk ms o := by
  refine ⟨vs.map fun v => (strOf v, tokOf v), by rw [List.map_map]; exact h2, ?_⟩
  have e : txs (vs.map fun v => (strOf v, tokOf v)) = vs := by
    clear h2 h
    induction vs with
    | nil => rfl
    | cons v r ih =>
      simp only [List.all_cons, Bool.and_eq_true] at h1
      have := ih h1.2
      cases v <;> first | cases h1.1 | skip
      show Value.str (tx _) _ :: txs _ = _
      rw [this]; rfl
  rw [e]; exact h
theorem mk_of {vs : List Value} (S : St b s ((a, lst vs) :: l)) (h1 : vs.all isStrV = true) (h2 : vs.map strOf = ms) : St b s ((a, mk ms) :: l) := S.weak fun _ h => lst_mk h1 h2 h
theorem r_m_join {pl : Sem Bool} {Q : Value → List Value → Shared → Prop} (h : Q (.builtin "str.join") [.str x t] s) : wpAny M A (getMethod (.str x t) "join" pl) (uncur Q) E s := by
  have h2 : uncur Q (.builtin "str.join", [.str x t]) s := h
  with_reducible exact GM.join h2
theorem rC_loc {name : Str} {scope : Scope} {L f : Addr} {cd v : Value} {m : Str → Option Value} {Q : Value → Shared → Prop} (S : St b s l) (G : (L, fr m) ∈ l) (hk : scope.kind = .function) (hl : scope.names.lookup x = some .local) (hv : m x = some v) (hd : (x == ("__debug__" : Str)) = false) (h : Q v s) :
    wpAny M A (eval (.Name x pos) (envOfC name scope L f cd)) Q E s := rE_loc (L := L) S G rfl hk hl hv hd h
theorem glE_unpack {Q : Value → Shared → Prop} (X : Wd (KK w) b) (S : St b s l) (hg : env.globals = mainGlobals) (hk : env.scope.kind = .function) (hl : env.kindOf "_law_unpack" = some .globalImplicit) (h : Q (.ref 314) s) : wpAny M A (eval (.Name "_law_unpack" pos) env) Q E s :=
  rE_glo X S hg hk hl (by kernel_rfl) (by decide) h
theorem glE_range {Q : Value → Shared → Prop} (X : Wd (KK w) b) (S : St b s l) (hg : env.globals = mainGlobals) (hb : env.builtins = builtinsNs) (hk : env.scope.kind = .function) (hl : env.kindOf "range" = some .globalImplicit) (h : Q (.type "range") s) : wpAny M A (eval (.Name "range" pos) env) Q E s :=
  rE_blt X S hg hb hk hl (by kernel_rfl) (by decide +kernel) (by decide) (by decide) h
end
theorem words_m2_lines1 : True := by
 (k_with "ne.m2_lines10" => first
  | (focus ((with_reducible refine' rE_cell ?_ ?_ ?_ ?_ ?_ ?_ ?_); (rotate_right 7); (· with_reducible assumption); (rotate_left 1); (· rfl); (rotate_right 1); (rotate_left 1); (· kernel_rfl); (rotate_right 1); (rotate_left 1); (· rfl); (rotate_right 1); (rotate_left 1); (· decide); (rotate_right 1); (· k_extra "mem")))
  | (focus ((with_reducible refine' rC_loc ?_ ?_ ?_ ?_ ?_ ?_ ?_); (rotate_right 7); (· with_reducible assumption); (rotate_left 1); (· rfl); (rotate_right 1); (rotate_left 1); (· kernel_rfl); (rotate_right 1); (rotate_left 2); (· decide); (rotate_right 2); (· k_extra "mem"); (· k_extra "nm")))
  | (focus ((with_reducible refine' glE_unpack ?_ ?_ ?_ ?_ ?_ ?_); (rotate_right 6); (· with_reducible assumption); (· with_reducible assumption); (· rfl); (· rfl); (· kernel_rfl)))
  | (focus ((with_reducible refine' glE_range ?_ ?_ ?_ ?_ ?_ ?_ ?_); (rotate_right 7); (· with_reducible assumption); (· with_reducible assumption); (· rfl); (· rfl); (· rfl); (· kernel_rfl)))
  | fail "none")
 (k_with "wc.m2_lines11" => repeat first | k_extra "ne" | k_extra "w1")
 (k_with "x1.m2_lines12" => with_reducible refine r_m_join ?_)
 trivial
local macro_rules
  | `(tactic| k_extra "ne") => `(tactic| k_extra "ne.m2_lines10")
  | `(tactic| k_extra "wc") => `(tactic| k_extra "wc.m2_lines11")
  | `(tactic| k_extra "x1") => `(tactic| k_extra "x1.m2_lines12")
section
variable {prog : Program} {w : World} {A : Around} {E : Value → Shared → Prop} {b : Bs} {s : Shared} {l l' : Led} {c : Addr} {Q : Value → Shared → Prop}
theorem menu_len {j : Nat} (hj : j < 9) : (menuL.getD j []).length ≤ 24 := by
  match j, hj with
  | 0, _ => decide +kernel
  | 1, _ => decide +kernel
  | 2, _ => decide +kernel
  | 3, _ => decide +kernel
  | 4, _ => decide +kernel
  | 5, _ => decide +kernel
  | 6, _ => decide +kernel
  | 7, _ => decide +kernel
  | 8, _ => decide +kernel
theorem lines_c {t : Tok} {args : List Value} (X : Wd (KK w) b) (S : St b s l) (D : Del l c (crt 65407) l') (hh : A.handled = none) (hr : Room A 3) (ha : args = [.ref c, .int 3 t])
    (h : ∀ (ls : List (Nat × Nat)) t s', ls.length ≤ 3 → (∀ p ∈ ls, p.1 < 9 ∧ p.2 < 3) → St b s' ((c, crt 65407) :: l') → Q (.str (tx (linesT ls)) t) s') : wpAny (model prog w) A (call (.ref 319) args) Q E s := by
  subst ha
  refine' r_callC (binds := [("crate", .ref c), ("most", .int 3 t)]) X S ?a1 ?a2 ?a3 ?a4 ?a5 ?a6 ?a7 ?a8 ?h
  case a1 => exact rfl
  case a2 => kernel_rfl
  case a3 => exact hr.lim
  case a4 => kernel_rfl
  case a5 => intro n x hx; simp only [List.mem_cons, List.not_mem_nil, or_false] at hx; rcases hx with rfl | rfl; exact .inr ⟨by kernel_rfl, by rfl⟩; exact .inl (by kernel_rfl)
  case a6 => rfl
  case a7 => rfl
  case a8 => rfl
  case h =>
    intro s1 L hL hI
    have h1 := hI.cell "crate" (L + 1) (by rfl)
    have h2 := hI.cell "menu" (L + 2) (by rfl)
    obtain ⟨oL, hoL, hpL⟩ := fr_of_ns hI.toInCall.ns
    obtain ⟨o1, ho1, hd1⟩ := h1
    obtain ⟨o2, ho2, hd2⟩ := h2
    have hkeep := hI.toInCall.keep
    obtain ⟨hp1, tk1, e1⟩ := hI.toInCall.same
    have S1 : St b s1 ((L, fr (up (fun _ => none) "most" (.int 3 t))) :: (L + 1, cel (some (.ref c))) :: (L + 2, cel none) :: l) := by
      refine StR.news (h := s.heap) (ns := [(L, fr (up (fun _ => none) "most" (.int 3 t))), (L + 1, cel (some (.ref c))), (L + 2, cel none)]) ?_ hkeep (fun p hp => ?_) ?_
      · rw [e1]; exact S
      · subst hL
        rcases List.mem_cons.mp hp with rfl | hp
        · exact ⟨Nat.le_refl _, oL, hoL, hpL⟩
        · rcases List.mem_cons.mp hp with rfl | hp
          · exact ⟨Nat.le_succ _, o1, ho1, hd1⟩
          · rw [List.mem_singleton.mp hp]
            exact ⟨Nat.le_succ_of_le (Nat.le_succ _), o2, ho2, hd2⟩
      · simp
    clear hI hpL hoL hd1 ho1 hd2 ho2 e1 hkeep
    k_extra "wc"
    refine' rE_stc (by assumption) ?d ?hk ?hl ?hc ?_
    rotate_left 2
    case hk => rfl
    case hl => kernel_rfl
    case hc => rfl
    case d => k_extra "del"
    intro s2 S2
    obtain ⟨ma, S3⟩ : ∃ ma, St b s2 ((ma, mk menuL) :: (L, fr (up (fun _ => none) "most" (.int 3 t))) :: (L + 1, cel (some (.ref c))) :: (L + 2, cel (some (.ref ma))) :: (c, crt 65407) :: l') := by
      refine' ⟨_, mk_of ?st ?e1 ?e2⟩
      rotate_left 2
      case st => k_extra "st!"
      case e1 => rfl
      case e2 => rfl
    clear S2 S1 D
    k_extra "wc"
    refine' r_comp (b := b) hh ?c1 ?c2 ?c3 ?c4 ?c5 ?hq ?c6
    case c1 => exact (show closureFor _ _ = pure ([(Str.ofString "menu", L + 2), (Str.ofString "crate", L + 1)] : List (Str × Addr)) from by rfl)
    case c2 => kernel_rfl
    case c3 => rfl
    case c4 => kernel_rfl
    case c5 => kernel_rfl
    case c6 => intro _; rfl
    k_extra "wc"
    refine' unpack_c (k := 4) (by assumption) (by assumption) ?d ?rr rfl (by decide) (by decide) rfl ?_
    case d => k_extra "del"
    case rr => k_extra "room"
    intro n tn s4 hn S4
    k_extra "wc"
    refine' r_iter_range (k := n) (by assumption) ?g rfl (by omega) ?_
    case g => k_extra "mem"
    intro it s5 S5
    refine' ⟨it, n, _, _, fun _ => True, (ma, mk menuL) :: (L + 1, cel (some (.ref c))) :: (L + 2, cel (some (.ref ma))) :: (c, crt 65407) :: l',
      fun i ys l₃ => l₃ = (ma, mk menuL) :: (L + 1, cel (some (.ref c))) :: (L + 2, cel (some (.ref ma))) :: (c, crt 65407) :: l' ∧ ∃ ps : List ((Nat × Nat) × Tok), ys = txs (ps.map fun p => (lineT p.1, p.2)) ∧ ps.length = i ∧ ∀ p ∈ ps, p.1.1 < 9 ∧ p.1.2 < 3,
      rfl, iter_range, self_range, by omega, fun _ _ _ => trivial, trivial, ⟨rfl, [], rfl, rfl, by simp⟩, ?st, ?turn, ?done⟩
    case st => k_extra "st!"
    case turn =>
      rintro i ys l₃ s6 C D v m E' hi ⟨rfl, ps, rfl, hps, hb⟩ _ ⟨tv, rfl⟩ hm S6
      refine wpAny_tests_nil ?_
      rw [if_pos rfl]
      k_extra "wc"
      refine' unpack_c (k := 9) (by assumption) (by assumption) ?d ?rr rfl (by decide) (by decide) rfl ?_
      case d => k_extra "del"
      case rr => k_extra "room"
      intro n1 tn1 s7 hn1 S7
      k_extra "wc"
      refine m_item (ms := menuL) (by assumption) (by k_extra "mem") rfl hn1 (by decide) ?_ (by with_unfolding_all rfl)
      intro t7
      k_extra "wc"
      refine' unpack_c (k := 3) (by assumption) (by assumption) ?d ?rr rfl (by decide) (by decide) rfl ?_
      case d => k_extra "del"
      case rr => k_extra "room"
      intro n2 tn2 s8 hn2 S8
      k_extra "wc"
      refine r_mulS (c := 32) (by assumption) (by decide +kernel) rfl (by omega) ?_
      intro t8 s9 S9
      k_extra "wc"
      have hz1 := menu_len hn1
      refine r_addS (by assumption) (by show (menuL.getD n1 []).length + (List.replicate n2 32).length ≤ 1048576; rw [List.length_replicate]; omega) ?_
      intro t9 s10 S10
      k_extra "wc"
      refine r_addS (by assumption) (by show (menuL.getD n1 [] ++ List.replicate n2 32).length + (Str.ofString "\n").cps.toList.length ≤ 1048576; rw [lit_nl, List.length_append, List.length_replicate, List.length_singleton]; omega) ?_
      intro t10 s11 S11
      refine' ⟨_, _, ⟨rfl, ps ++ [((n1, n2), t10)], ?e, by simp [hps], fun p hp => ?_⟩, trivial, ?st⟩
      rotate_left
      case st => k_extra "st!"
      case e => simp [txs, lineT, lit_nl]
      rcases List.mem_append.mp hp with hp | hp
      · exact hb p hp
      · rw [List.mem_singleton.mp hp]; exact ⟨hn1, hn2⟩
    case done =>
      rintro ys l₃ s6 D ⟨rfl, ps, rfl, hps, hb⟩ S6
      k_extra "wc"
      have hsum : (((ps.map fun p => (lineT p.1, p.2)).map (·.1)).map (·.length)).sum ≤ 40 * ps.length := by
        clear hps S6
        induction ps with
        | nil => exact Nat.le_refl _
        | cons p r ih =>
          have h1 : (lineT p.1).length ≤ 40 := lineT_len (hb p List.mem_cons_self).1 (hb p List.mem_cons_self).2
          have h2 := ih (fun q hq => hb q (List.mem_cons_of_mem _ hq))
          simp only [List.map_cons, List.sum_cons, List.length_cons] at h2 ⊢
          omega
      refine r_joinE (ps := ps.map fun p => (lineT p.1, p.2)) (by assumption) (by k_extra "mem") (by rw [List.length_map]; omega) ?_
      intro t7 s7 S7
      k_extra "wc"
      have e : ((ps.map fun p => (lineT p.1, p.2)).map (·.1)).flatten = linesT (ps.map (·.1)) := by unfold linesT; simp [Function.comp_def]
      rw [e]
      refine h _ _ _ (by simp; omega) (fun p hp => ?_) (by k_extra "st!")
      obtain ⟨q, hq, rfl⟩ := List.mem_map.mp hp
      exact hb q hq
end
section
variable {prog : Program} {w : World} {A : Around} {E : Value → Shared → Prop} {b : Bs} {s : Shared} {l l' : Led} {c : Addr} {Q : Value → Shared → Prop}
theorem spoilt_c {args : List Value} (X : Wd (KK w) b) (S : St b s l) (D : Del l c (crt 65407) l') (hr : Room A 3) (ha : args = [.ref c])
    (h : ∀ i a t1 u s', i < 14 → St b s' ((a, tup [.str (tx (spL.getD i ([], none)).1) t1, oi (spL.getD i ([], none)).2 u]) :: (c, crt 65407) :: l') → Q (.ref a) s') : wpAny (model prog w) A (call (.ref 326) args) Q E s := by
  subst ha
  k_extra "enter"
  rename_i L S1
  k_extra "w"
  refine' unpack_c (k := 14) (by assumption) (by assumption) ?d ?rr rfl (by decide) (by decide) rfl ?_
  case d => k_extra "del"
  case rr => k_extra "room"
  intro n tn s7 hn S7
  k_extra "w"
  refine' r_itemL (j := n) (by assumption) ?g rfl (List.getElem?_eq_getElem ?hl) (by omega) ?_ ?s
  rotate_left 2
  case s => with_unfolding_all rfl
  case g => k_extra "mem"
  case hl => exact hn
  k_extra "w"
  match n, hn with
  | 0, _ =>
    refine' h 0 _ _ _ _ (by decide) ?st
    case st => change St b _ ((_, tup [.str (Str.ofString "\x07") _, .int (0 : Int) _]) :: _); k_extra "st!"
  | 1, _ =>
    refine' h 1 _ _ _ _ (by decide) ?st
    case st => change St b _ ((_, tup [.str (Str.ofString "a `") _, .int (2 : Int) _]) :: _); k_extra "st!"
  | 2, _ =>
    refine' h 2 _ _ _ _ (by decide) ?st
    case st => change St b _ ((_, tup [.str (Str.ofString ")") _, .int (0 : Int) _]) :: _); k_extra "st!"
  | 3, _ =>
    refine' h 3 _ _ _ _ (by decide) ?st
    case st => change St b _ ((_, tup [.str (Str.ofString "[a)") _, .int (2 : Int) _]) :: _); k_extra "st!"
  | 4, _ =>
    refine' h 4 _ _ _ _ (by decide) ?st
    case st => change St b _ ((_, tup [.str (Str.ofString "end") _, .int (0 : Int) _]) :: _); k_extra "st!"
  | 5, _ =>
    refine' h 5 _ _ _ _ (by decide) ?st
    case st => change St b _ ((_, tup [.str (Str.ofString "u \"ab") _, .int (2 : Int) _]) :: _); k_extra "st!"
  | 6, _ =>
    refine' h 6 _ _ _ _ (by decide) ?st
    case st => change St b _ ((_, tup [.str (Str.ofString "v #= w") _, .int (2 : Int) _]) :: _); k_extra "st!"
  | 7, _ =>
    refine' h 7 _ _ 0 _ (by decide) ?st
    case st => change St b _ ((_, tup [.str (Str.ofString "(a") _, .none]) :: _); k_extra "st!"
  | 8, _ =>
    refine' h 8 _ _ 0 _ (by decide) ?st
    case st => change St b _ ((_, tup [.str (Str.ofString "while b") _, .none]) :: _); k_extra "st!"
  | 9, _ =>
    refine' h 9 _ _ _ _ (by decide) ?st
    case st => change St b _ ((_, tup [.str (Str.ofString "1.5") _, .int (1 : Int) _]) :: _); k_extra "st!"
  | 10, _ =>
    refine' h 10 _ _ _ _ (by decide) ?st
    case st => change St b _ ((_, tup [.str (Str.ofString "0x") _, .int (2 : Int) _]) :: _); k_extra "st!"
  | 11, _ =>
    refine' h 11 _ _ _ _ (by decide) ?st
    case st => change St b _ ((_, tup [.str (Str.ofString "'ab'") _, .int (2 : Int) _]) :: _); k_extra "st!"
  | 12, _ =>
    refine' h 12 _ _ _ _ (by decide) ?st
    case st => change St b _ ((_, tup [.str (Str.ofString "\"a\\q\"") _, .int (3 : Int) _]) :: _); k_extra "st!"
  | 13, _ =>
    refine' h 13 _ _ _ _ (by decide) ?st
    case st => change St b _ ((_, tup [.str (Str.ofString "\"$(g(\"") _, .int (5 : Int) _]) :: _); k_extra "st!"
end
section
open Builtin.Str
variable {prog : Program} {w : World} {A : Around} {E : Value → Shared → Prop} {b : Bs} {s : Shared} {l : Led} {x : Str} {t u : Tok} {Q : Value → Shared → Prop}
theorem split_ne (x y : Str) : Txt.split x y ≠ [] := by
  unfold Txt.split
  split
  · simp
  · split
    · simp
    · intro h
      have := congrArg List.length h
      rw [length_partsBetween] at this
      simp at this
theorem join_inter : ∀ L : List Str, (Str.join (Str.ofString "\n") L).cps.toList = inter (L.map fun y => y.cps.toList)
  | [] => rfl
  | [a] => rfl
  | a :: c :: r => by
    show (a ++ Str.ofString "\n" ++ Str.join (Str.ofString "\n") (c :: r)).cps.toList = _
    rw [str_app, str_app, join_inter (c :: r), show (Str.ofString "\n").cps.toList = [10] from lit_nl]
    simp [inter]
theorem split_parts (x : Str) : inter ((Txt.split x (Str.ofString "\n")).map fun y => y.cps.toList) = x.cps.toList ∧ ∀ p ∈ (Txt.split x (Str.ofString "\n")).map (fun y => y.cps.toList), 10 ∉ p := by
  refine ⟨by rw [← join_inter, StrLaws.join_split], fun p hp => ?_⟩
  obtain ⟨q, hq, rfl⟩ := List.mem_map.mp hp
  have e : Str.ofString "\n" = ⟨#[10]⟩ := by decide +kernel
  rw [e] at hq
  exact StrLaws.split_free x 10 q hq
noncomputable def upv (ls : List (Str × Tok)) : List (List Nat × Tok) := ls.map fun q => (q.1.cps.toList, q.2)
theorem upv_vals (ls : List (Str × Tok)) : strValues ls = txs (upv ls) := by
  induction ls with
  | nil => rfl
  | cons p r ih => show Value.str _ _ :: strValues r = _; rw [ih]; rfl
theorem upv_map (ls : List (Str × Tok)) : (upv ls).map (·.1) = (ls.map (·.1)).map fun y => y.cps.toList := by unfold upv; simp [Function.comp_def]
theorem r_split (S : St b s l) (hz : x.length ≤ 1048576) (h : ∀ a (ps : List (List Nat × Tok)) s', ps ≠ [] → inter (ps.map (·.1)) = x.cps.toList → (∀ p ∈ ps.map (·.1), 10 ∉ p) → ps.length ≤ 1048577 → St b s' ((a, lst (txs ps)) :: l) → Q (.ref a) s') :
    wpAny (model prog w) A (call (.builtin "str.split") [.str x t, .str (Str.ofString "\n") u]) Q E s := by
  have hn : (partsBetween x (occurrences x (Str.ofString "\n") 0 x.length (x.length + 1)) (Str.ofString "\n").length).length ≤ x.length + 2 := by
    have e1 := StrLaws.occ_length_le x (Str.ofString "\n") 0 x.length (x.length + 1)
    rw [length_partsBetween]; omega
  have fin : ∀ (ls : List (Str × Tok)) (k : Nat), ls.map (·.1) = Txt.split x (Str.ofString "\n") → Q (.ref s.heap.objs.size) { s with heap := s.heap.push { cls := .type "list", data := .seq (strValues ls).toArray }, toks := k } := fun ls k e => by
    obtain ⟨h1, h2⟩ := split_parts x
    rw [← e, ← upv_map] at h1 h2
    have h0 : upv ls ≠ [] := fun q => split_ne x (Str.ofString "\n") (by rw [← e]; have := congrArg List.length q; simp [upv] at this; rw [this]; rfl)
    refine h _ (upv ls) _ h0 h1 h2 ?_ ?_
    · rcases List.eq_nil_or_concat (upv ls) with q | ⟨us, z, q⟩
      · exact absurd q h0
      · rw [List.concat_eq_append] at q
        rw [q, List.map_append, List.map_singleton] at h1 h2
        have h3 := (inter_spot _ _ h2).1
        rw [h1, List.length_map] at h3
        have h4 : x.cps.toList.count 10 ≤ x.cps.toList.length := List.count_le_length
        have h5 : x.length = x.cps.toList.length := by simp [Str.length]
        rw [q, List.length_append, List.length_singleton]
        omega
    · rw [← upv_vals]
      exact S.push (o := { cls := .type "list", data := .seq (strValues ls).toArray }) rfl ⟨0, rfl⟩
  have hy : ((Str.ofString "\n").length == 0) = false := by decide +kernel
  have hs1 : x.length ≤ sizeLine := by rw [sizeLine_eq]; omega
  have hs2 : (partsBetween x (occurrences x (Str.ofString "\n") 0 x.length (x.length + 1)) (Str.ofString "\n").length).length ≤ sizeLine := by rw [sizeLine_eq]; omega
  cases h1 : (decide (x.length < (Str.ofString "\n").length) || decide (strKind x < strKind (Str.ofString "\n")))
  · cases hf : (occurrences x (Str.ofString "\n") 0 x.length (x.length + 1)).isEmpty
    · refine call_meets F.slot_str_split (typeIs_str _ _ _) F.entry_str_split (F.args_str_split_2 _ _) (meets_str_split_sep x (Str.ofString "\n") t u h1 hy hf hs1 hs2) ?_
      show wants Q E _ { s with toks := _, heap := s.heap.push { cls := .type "list", data := .seq (strsFrom s.toks (partsBetween x (occurrences x (Str.ofString "\n") 0 x.length (x.length + 1)) (Str.ofString "\n").length)).toArray } }
      rw [strsFrom_eq]
      exact fin (numbered s.toks _) _ ((numbered_texts _ _).trans (by unfold Txt.split; rw [if_neg (by rw [h1]; decide), if_neg (by rw [hf]; decide)]))
    · exact call_meets F.slot_str_split (typeIs_str _ _ _) F.entry_str_split (F.args_str_split_2 _ _) (meets_str_split_not_found x (Str.ofString "\n") t u h1 hy hf)
        (fin [(x, t)] s.toks (by unfold Txt.split; rw [if_neg (by rw [h1]; decide), if_pos hf]; rfl))
  · exact call_meets F.slot_str_split (typeIs_str _ _ _) F.entry_str_split (F.args_str_split_2 _ _) (meets_str_split_cannot_occur x (Str.ofString "\n") t u h1)
      (fin [(x, t)] s.toks (by unfold Txt.split; rw [if_pos h1]; rfl))
theorem r_m_split {M : Model} {E : Value → Shared → Prop} {pl : Sem Bool} {Q : Value → List Value → Shared → Prop} (h : Q (.builtin "str.split") [.str x t] s) : wpAny M A (getMethod (.str x t) "split" pl) (uncur Q) E s := by
  have h2 : uncur Q (.builtin "str.split", [.str x t]) s := h
  with_reducible exact GM.split h2
end
theorem words_m4_spot1 : True := by
 (k_with "x1.m4_spot10" => with_reducible refine r_m_split ?_)
 trivial
local macro_rules
  | `(tactic| k_extra "x1") => `(tactic| k_extra "x1.m4_spot10")
section
variable {prog : Program} {w : World} {A : Around} {E : Value → Shared → Prop} {b : Bs} {s : Shared} {l l' : Led} {c : Addr} {Q : Value → Shared → Prop}
theorem spotl_c {tl : List Nat} {t : Tok} {args : List Value} (X : Wd (KK w) b) (S : St b s l) (hz : tl.length ≤ 100000) (hr : Room A 1) (ha : args = [.str (tx tl) t])
    (h : ∀ a t1 t2 s', St b s' ((a, tup [.int (spotS tl).1 t1, .int (spotS tl).2 t2]) :: l) → Q (.ref a) s') : wpAny (model prog w) A (call (.ref 333) args) Q E s := by
  subst ha
  k_extra "enter"
  rename_i L S1
  k_extra "w"
  refine r_split (by assumption) (by rw [tx_len]; omega) ?_
  intro a ps s2 h0 h1 h2 h3 S2
  rcases List.eq_nil_or_concat ps with q | ⟨us, z, q⟩
  · exact absurd q h0
  rw [List.concat_eq_append] at q
  subst q
  rw [List.map_append, List.map_singleton] at h1 h2
  have h4 := inter_spot _ _ h2
  rw [h1, List.length_map] at h4
  obtain ⟨h5, h6⟩ := h4
  have h7 : (tx tl).cps.toList.count 10 ≤ tl.length := List.count_le_length
  have hl1 : (txs (us ++ [z])).length ≤ 1048576 := by rw [txs_len, List.length_append, List.length_singleton]; omega
  have h8 : z.1.length ≤ tl.length := by
    rw [← h6]
    show (List.takeWhile _ tl.reverse).length ≤ _
    have := (List.takeWhile_sublist (fun a => decide (a ≠ 10)) (l := tl.reverse)).length_le
    rw [List.length_reverse] at this
    exact this
  have e2 : txs (us ++ [z]) = txs us ++ [.str (tx z.1) z.2] := by simp [txs]
  rw [e2] at S2 hl1
  k_extra "w"
  refine r_len (by assumption) (by rw [tx_len]; omega) ?_
  intro t7 s7 S7
  k_extra "w"
  refine' h _ _ _ _ ?st
  case st =>
    have e3 : (spotS tl).1 = ((txs us ++ [Value.str (tx z.1) z.2]).length : Nat) := by
      show ((tl.count 10 : Nat) : Int) + 1 = _
      rw [List.length_append, txs_len, List.length_singleton]
      have : tl.count 10 = us.length := h5
      omega
    have e4 : (spotS tl).2 = ((tx z.1).cps.toList.length : Nat) + 1 := by
      show ((tailLen tl : Nat) : Int) + 1 = _
      have : tailLen tl = z.1.length := h6
      rw [this]
    rw [e3, e4]
    k_extra "st!"
end
section
variable {prog : Program} {w : World} {A : Around} {E : Value → Shared → Prop} {b : Bs} {s : Shared} {R l l' : Led} {a dxe T : Addr} {env : Env} {tb : Value} {m : Str → Option Value}
theorem exc_inst {n : Nat} (S : St b s ((a, xc 52 dxe tb) :: l)) (G : (dxe, ids n m) ∈ l) : ∃ o od, ids n m od ∧ InstAt s.heap a o 52 (some od) := by
  obtain ⟨o, ho, hc, hdd, vs, hdt, hv⟩ := S.head
  obtain ⟨od, hod, q⟩ := S.get (.tail _ G)
  exact ⟨o, od, q, ho, hc, by obtain ⟨c, d, dt, sl⟩ := o; cases hdt; rfl, by rw [hdd]; exact hod⟩
/-- a field of an own exception -/
theorem x_getattr {y : Str} {v : Value} {n : Nat} {ex : Bool} {Q : Value → Shared → Prop} (X : Wd (KK w) b) (S : St b s ((a, xc 52 dxe tb) :: l)) (G : (dxe, ids n m) ∈ l) (hy : findIn (KK w) (.ref 52) y = some none) (hv : m y = some v) (hh : handedIn v = true)
    (h : ∀ s', St b s' ((a, xc 52 dxe tb) :: l) → Q v s') : wpAny (model prog w) A (getAttr (.ref a) y ex) Q E s := by
  obtain ⟨o, od, q, I⟩ := exc_inst S G
  have XS := X.inS S
  have ht : Looks (model prog w) s.heap (typeOf (.ref a)) (.ref 52) := I.type
  have hga : findIn (KK w) (.ref 52) "__getattribute__" = some (some (.builtin "BaseException.__getattribute__")) := by kernel_rfl
  have hb : Looks (model prog w) s.heap (hookBefore (.ref 52)) none := looks_hook XS (by kernel_rfl)
  have L1 : Looks (model prog w) s.heap (find (.ref a) (.ref 52) y) (.value v) := looks_find XS I (findObj_own (by kernel_rfl) hy (by rfl) (by rw [lookIn_ids q, hv]))
  have FX := F.excAttr_ValueError.ga
  refine wpAny_bind (wpAny_mkText (wpAny_holding (wpAny_bind (ht _ _ _ _ (fun _ _ e => e) (wpAny_bind (looks_findIn XS hga _ _ _ _ (fun _ _ e => e) ?_))))))
  dsimp only
  rw [show (onTheHeap (Value.ref 52) && Value.builtin "BaseException.__getattribute__" == Value.builtin "object.__getattribute__") = false from by rw [show (Value.builtin "BaseException.__getattribute__" == Value.builtin "object.__getattribute__") = false from by decide +kernel, Bool.and_false], if_neg (by decide)]
  refine wpAny_bind (hb _ _ _ _ (fun _ _ e => e) (wpAny_bind (wpAny_attempt (wpAny_holding ?_))))
  unfold callGetattribute
  rw [show (ex && onTheHeap (Value.builtin "BaseException.__getattribute__")) = false from Bool.and_false _, if_neg (by decide)]
  unfold boundAndCalled
  rw [FX.bind]
  refine wpAny_bind (wpAny_pure ?_)
  show wpAny _ _ (call (.builtin "BaseException.__getattribute__") [.ref a, .str y s.toks]) _ _ _
  refine wpAny_call ?_
  refine codeAny_call_builtin FX.plain F.entry_bexc_ga ?_
  refine @check_slot (model prog w) _ _ { s with toks := s.toks + 1 } "BaseException.__getattribute__" "BaseException" "__getattribute__" (.ref a) [.str y s.toks] [] _ (by decide +kernel) (by decide +kernel) (ht.andThen (looks_subIn XS (by kernel_rfl))) (F.args_bexc_ga (.ref a) (.str y s.toks)) ?_
  refine wpAny_bind (wpAny_pure (wpAny_bind (wpAny_pure (wpAny_bind ((I.type (M := model prog w)) _ _ _ _ (fun _ _ e => e) (wpAny_bind (L1 _ _ _ _ (fun _ _ e => e) ?_)))))))
  refine wpAny_pure ?_
  show wpAny _ _ (handedOut v) _ _ _
  rw [handedOut_of hh]
  exact wpAny_pure (h _ S)
theorem r_unbind {M : Model} {name : Str} {scope : Scope} {L f : Addr} {cd v : Value} {x : Str} {Q : Unit → Shared → Prop} (S : St b s l) (D : Del l L (fr m) l') (hk : scope.kind = .function) (hl : scope.names.lookup x = some .local) (hv : m x = some v) (h : ∀ m' s', St b s' ((L, fr m') :: l') → Q () s') :
    wpAny M A (unbindName (envOf name scope L f cd) x) Q E s := by
  have S' := S.del D
  refine wpAny_unbindName_local hl (ns_of_fr S'.head) hv (by show (scope.kind == .class || (scope.kind == .module && L != mainGlobals)) = false; rw [hk]; rfl) fun h' u hn hs => h (fun y => if y = x then u else m y) _ ?_
  obtain ⟨o, ho, p⟩ := fr_of_ns hn
  exact S'.set hs ho p
theorem r_handleAs {t : Expr} {n : Str} {k : Nat} {b₀ : Stmt} {suite : List Stmt} {pos : Pos} {rest : List ExceptHandler} {Q : Flow → Shared → Prop} (X : Wd (KK w) b) (S : St b s ((a, xc 52 dxe tb) :: l)) (G : (dxe, ids k m) ∈ l)
    (hname : ∀ (E' : Value → Shared → Prop) (Q' : Value → Shared → Prop), Q' (.ref 52) s → wpAny (model prog w) (A.mark (some (.ref a))) (eval t env) Q' E' s)
    (h : ∀ E1 E2 E3 : Value → Shared → Prop, wpAny (model prog w) (A.mark (some (.ref a))) (setFlight (.ref a) none) (fun _ s₂ => wpAny (model prog w) (A.mark (some (.ref a))) (storeName env n (.ref a)) (fun _ s₃ => wpAny (model prog w) (A.mark (some (.ref a))) (execs (b₀ :: suite) env)
      (fun f s₄ => wpAny (model prog w) A (do bindName env n .none; unbindBehindTheSuite env n pos) (fun _ s₅ => Q f s₅) E s₄) E3 s₃) E2 s₂) E1 s) :
    wpAny (model prog w) A (handleBy (.ref a) env (.ExceptHandler (some t) (some n) (b₀ :: suite) pos :: rest)) Q E s := by
  obtain ⟨o, od, q, I⟩ := exc_inst S G
  have X1 : Looks (model prog w) s.heap (excMatches (.ref a) (.ref 52)) true := exm_one (X.inS S) I.type (by kernel_rfl)
  refine wpAny_handleBy_cons (codeAny_handlers_test (hname _ _ (X1.here ?_))) (by intro q; cases q)
  exact codeAny_handlers_suite_as (h _ _ _)
end
inductive FtM (b : Bs) (l : Led) (L : Addr) (tl : List Nat) (s : Shared) : Prop
  | mk (m : Str → Option Value) (hw : ∃ ws, wordsS nx1 tl = .ok ws) (S : St b s ((L, fr m) :: l))
section
variable {prog : Program} {w : World} {A : Around} {E : Value → Shared → Prop} {b : Bs} {s : Shared} {l l' : Led} {Q : Value → Shared → Prop}
theorem faultl_c {tl : List Nat} {t : Tok} {args : List Value} (X : Wd (KK w) b) (S : St b s l) (hz : tl.length ≤ 1048576) (hi : Hi A l) (hr : Room A 20) (ha : args = [.str (tx tl) t]) (hu : wordsS nx1 tl ≠ .un)
    (h1 : ∀ s', (∃ ws, wordsS nx1 tl = .ok ws) → St b s' l → Q .none s')
    (h2 : ∀ n a t1 t2 s', wordsS nx1 tl = .err n → St b s' ((a, tup [.int (spotT tl n).1 t1, .int (spotT tl n).2 t2]) :: l) → Q (.ref a) s') : wpAny (model prog w) A (call (.ref 340) args) Q E s := by
  subst ha
  have hh := hi.hh
  k_extra "enter"
  rename_i L S1
  refine execs_cutR (FtM b l L tl) ?p1 ?p2
  case p1 =>
    intro R hR
    refine wpAny_Try_except ?_
    k_extra "w"
    have hnx : NextC prog w b 17 1 nx1 := nextC_of X (by decide) (putC_all X 1)
    refine' words_c (nx := nx1) (tl := tl) (by assumption) hnx (by assumption) hz ?hi ?rp ?rr rfl hu ?errr ?_
    case hi => k_extra "hi"
    case rp => exact Room.deep hr (by decide)
    case rr => exact Room.deep hr (by decide)
    case errr =>
      rintro sp e s2 ⟨n, hn, rfl⟩ x
      obtain ⟨fs, ha, hf⟩ := hi.fr
      refine x.note (FrIn.cons (by show ScopeKind.function ≠ .module; decide) rfl (.head _) (hf.mono fun p hp => .tail _ hp)) (Around.frames_deeper ha) fun s3 y => ?_
      refine y.flight fun s4 z => ?_
      obtain ⟨ea, dxe, ta, m, t1, t2, T, rfl, hm, S4⟩ := z
      refine r_handleAs X S4 (List.mem_cons_of_mem _ List.mem_cons_self) (fun E' Q' h => gl_WordFault X S4 (by kernel_rfl) h) fun E1 E2 E3 => ?_
      refine x_flight S4 fun s5 S5 => ?_
      k_extra "w"
      refine' x_getattr (m := m) (n := 10) (dxe := dxe) (tb := .ref T) (v := .ref ta) (b := b) X (StR.ext (by assumption) (Ext.cons ?d .all)) ?g ?k hm rfl ?_
      case d => k_extra "del"
      rotate_left
      case k => kernel_rfl
      rotate_left
      case g => k_extra "mem"
      intro s6 S6
      k_extra "w1"
      show wpAny _ _ (bindName _ _ .none >>= fun _ => unbindBehindTheSuite _ _ _) _ _ _
      refine wpAny_bind ?_
      k_extra "w"
      unfold unbindBehindTheSuite
      refine wpAny_onRaise ?_
      refine' r_unbind (by assumption) ?d rfl ?hl ?hv ?_
      rotate_left 2
      case d => k_extra "del"
      rotate_left
      case hl => kernel_rfl
      case hv => k_extra "nm"
      intro m' s7 S7
      exact hR.ret _ _ (h2 n ta t1 t2 _ hn (by k_extra "st!"))
    intro fo w rs s2 e S2
    k_extra "w"
    exact ⟨_, ⟨_, e⟩, S2.ext (.drop (wsL_ext _))⟩
  case p2 =>
    rintro s2 ⟨m, hw, S2⟩
    k_extra "w"
    exact h1 _ hw (by k_extra "st!")
end
section
variable {prog : Program} {w : World} {A : Around} {E : Value → Shared → Prop} {b : Bs} {s : Shared} {l l' : Led} {c a1 a2 : Addr} {Q : Value → Shared → Prop}
theorem r_ne2 {x y x' y' : Int} {t1 t2 u1 u2 : Tok} (S : St b s l) (G1 : (a1, tup [.int x t1, .int y t2]) ∈ l) (G2 : (a2, tup [.int x' u1, .int y' u2]) ∈ l) (hu : A.units < cLine) (hx : x = x') (hy : y = y') (h : Q (.bool false) s) :
    wpAny (model prog w) A (compareOp .NotEq (.ref a1) (.ref a2)) Q E s := by
  subst hx hy
  refine SeqAt.RcNeAt.tuples (e := fun _ => true) (tup_at S G1) (tup_at S G2) hu (fun j h1 h2 => ?_) prog w E Q ?_
  · match j, h1, h2 with
    | 0, _, _ => have := SeqAt.EqAt.int_int (A := A.in1) (s := s) x t1 x u1; rw [beq_self_eq_true] at this; exact this
    | 1, _, _ => have := SeqAt.EqAt.int_int (A := A.in1) (s := s) y t2 y u2; rw [beq_self_eq_true] at this; exact this
  · have e : (!((List.range (min [Value.int x t1, Value.int y t2].toArray.size [Value.int x u1, Value.int y u2].toArray.size)).all (fun _ => true) && [Value.int x t1, Value.int y t2].toArray.size == [Value.int x u1, Value.int y u2].toArray.size)) = false := rfl
    rw [e]; exact h
theorem r_min2 {x y : Int} {t u : Tok} (S : St b s l) (hh : A.handled = none) (h : ∀ n t s', n = min x y → St b s' l → Q (.int n t) s') : wpAny (model prog w) A (call (.builtin "min") [.int x t, .int y u]) Q E s := by
  refine min_two_ints hh fun h' tk k => ?_
  have := h (min x y) (if y < x then u else t) { s with heap := h', toks := tk } rfl (S.keeps k)
  by_cases q : y < x
  · rw [if_pos q] at this ⊢; rw [show min x y = y by omega] at this; exact this
  · rw [if_neg q] at this ⊢; rw [show min x y = x by omega] at this; exact this
theorem r_max2 {x y : Int} {t u : Tok} (S : St b s l) (hh : A.handled = none) (h : ∀ n t s', n = max x y → St b s' l → Q (.int n t) s') : wpAny (model prog w) A (call (.builtin "max") [.int x t, .int y u]) Q E s := by
  refine max_two_ints hh fun h' tk k => ?_
  have := h (max x y) (if y > x then u else t) { s with heap := h', toks := tk } rfl (S.keeps k)
  by_cases q : y > x
  · rw [if_pos q] at this ⊢; rw [show max x y = y by omega] at this; exact this
  · rw [if_neg q] at this ⊢; rw [show max x y = x by omega] at this; exact this
theorem m_itemV {value slice : Expr} {vs : List Value} {ms : List (List Nat)} {a : Addr} {u : Tok} {k : Int} {j : Nat} (S : St b s l) (G : (a, lst vs) ∈ l) (h1 : vs.all isStrV = true) (h2 : vs.map strOf = ms) (hk : k = (j : Int)) (hj : j < ms.length) (hj2 : ms.length ≤ 1000) (h : ∀ t, Q (.str (tx (ms.getD j [])) t) s)
    (hs : subscripted slice false (.ref a) (.int k u) = operate [.ref a, .int k u] (getItem (.ref a) (.int k u))) : wpAny (model prog w) A (subscriptTail value slice (.ref a) (.int k u)) Q E s := by
  subst hk
  obtain ⟨o, ho, p⟩ := S.get G
  obtain ⟨ps, e, q⟩ := lst_mk h1 h2 p
  obtain ⟨nn, q⟩ := q
  have hl : s.heap.IsList a (txs ps).toArray := ⟨o, ho, by rw [q], nn, by rw [q]⟩
  subst e
  have hj' : j < ps.length := by simpa using hj
  refine tl_list ⟨_, hl⟩ (wpAny_getItem_list (x := .str (tx ps[j].1) ps[j].2) hl (by omega) (by simp at hj2; omega) (by simp [txs, hj']) ?_) hs
  have := h ps[j].2
  rw [List.getD_eq_getElem?_getD, List.getElem?_map, List.getElem?_eq_getElem hj'] at this
  exact this
theorem spL_off : ∀ i, i < 14 → ∀ d, (spL.getD i ([], none)).2 = some d → d ≤ (spL.getD i ([], none)).1.length := by decide +kernel
theorem due_none {ls : List (Nat × Nat)} {sp bh : List Nat} : spotT (linesT ls ++ sp ++ 10 :: bh) ((linesT ls).length + offL (sp ++ 10 :: bh) none) = spotS (linesT ls ++ sp ++ 10 :: bh) := by
  have e : (linesT ls).length + offL (sp ++ 10 :: bh) none = (linesT ls ++ sp ++ 10 :: bh).length := by
    show (linesT ls).length + (sp ++ 10 :: bh).length = _
    simp only [List.length_append]; omega
  rw [spotT_S _ _ (by omega), e, List.take_length]
theorem due_some {ls : List (Nat × Nat)} {sp bh : List Nat} {d : Nat} (hd : d ≤ sp.length) : spotT (linesT ls ++ sp ++ 10 :: bh) ((linesT ls).length + offL (sp ++ 10 :: bh) (some d)) = spotS (linesT ls ++ sp.take d) := by
  show spotT _ ((linesT ls).length + d) = _
  rw [spotT_S _ _ (by simp only [List.length_append]; omega), List.append_assoc, List.take_length_add_append, List.take_append_of_le_length hd]
theorem is_int {M : Model} {n : Int} {t : Tok} (h : Q (.bool false) s) : wpAny M A (compareOp .Is (.int n t) .none) Q E s := wpAny_is_other (by rfl) (fun z => by cases z) h
theorem is_nn2 {M : Model} (h : Q (.bool true) s) : wpAny M A (compareOp .Is .none .none) Q E s := wpAny_is_self (by rfl) h
theorem isnot_nn {M : Model} (h : Q (.bool false) s) : wpAny M A (compareOp .IsNot .none .none) Q E s := wpAny_isNot_self (by rfl) h
theorem fg_err {α : Type} {r : Res α} {n : Nat} (h : fg r = .err n) : r = .err n := by cases r <;> first | (cases h; rfl) | cases h
theorem fg_ok {α : Type} {r : Res α} (h : fg r = .ok) : ∃ x, r = .ok x := by cases r <;> first | exact ⟨_, rfl⟩ | cases h
theorem spot_of {tl : List Nat} {n : Nat} (h : n ≤ tl.length) {r : Int × Int} (hr : spotS (tl.take n) = r) : spotT tl n = r := by rw [spotT_S _ _ h, hr]
end
section
variable {prog : Program} {w : World} {A : Around} {E : Value → Shared → Prop} {b : Bs} {s : Shared} {l l' : Led} {sc : Addr} {Q : Value → Shared → Prop}
/-- fault, where the spec tells an error -/
theorem fault_err {tl : List Nat} {n : Nat} {t : Tok} {args : List Value} (X : Wd (KK w) b) (S : St b s l) (hz : tl.length ≤ 1048576) (hi : Hi A l) (hr : Room A 20) (ha : args = [.str (tx tl) t]) (hu : fg (wordsS nx1 tl) = .err n)
    (h : ∀ a t1 t2 s', St b s' ((a, tup [.int (spotT tl n).1 t1, .int (spotT tl n).2 t2]) :: l) → Q (.ref a) s') : wpAny (model prog w) A (call (.ref 340) args) Q E s := by
  have e := fg_err hu
  refine faultl_c X S hz hi hr ha (by rw [e]; intro z; cases z) (fun s' ⟨ws, hw⟩ => ?_) (fun k a t1 t2 s' hk S' => ?_)
  · rw [e] at hw; cases hw
  · rw [e] at hk; cases hk; exact h a t1 t2 s' S'
theorem fault_ok {tl : List Nat} {t : Tok} {args : List Value} (X : Wd (KK w) b) (S : St b s l) (hz : tl.length ≤ 1048576) (hi : Hi A l) (hr : Room A 20) (ha : args = [.str (tx tl) t]) (hu : fg (wordsS nx1 tl) = .ok)
    (h : ∀ s', St b s' l → Q .none s') : wpAny (model prog w) A (call (.ref 340) args) Q E s := by
  obtain ⟨x, e⟩ := fg_ok hu
  refine faultl_c X S hz hi hr ha (by rw [e]; intro z; cases z) (fun s' _ S' => h s' S') (fun k a t1 t2 s' hk S' => ?_)
  rw [e] at hk; cases hk
theorem law_c {vs : List Value} {ns : List Int} {args : List Value} (X : Wd (KK w) b) (S : St b s []) (hl : b.B.IsList sc vs.toArray) (hns : IntsAre vs ns) (hz : vs.length ≤ 1048576) (hi : Hi A []) (hr : Room A 30) (ha : args = [.ref sc])
    (h : ∀ s' l', St b s' l' → Q (.bool true) s') : wpAny (model prog w) A (call (.ref 347) args) Q E s := by
  subst ha
  have hh := hi.hh
  k_extra "enter"
  rename_i L S1
  refine execs_cutR (fun s => ∃ m l', m "script" = some (.ref sc) ∧ St b s ((L, fr m) :: l')) ?p1 ?p2
  case p1 =>
    k_extra "w"
    refine' fault_err (tl := T "a\n \"bc\n") (n := 3) (by assumption) (by assumption) (by decide +kernel) ?hi1 (Room.deep hr (by decide)) (by rfl) (isE_eq fix_1) ?_
    case hi1 => k_extra "hi"
    intro f1 x1 y1 s3 S3
    k_extra "w"
    refine' r_ne2 (by assumption) ?g1 ?g2 (Room.cl (Room.deep (d' := 0) hr (by decide))) ?ex ?ey ?_
    case g1 => k_extra "mem"
    case g2 => k_extra "mem"
    case ex => decide +kernel
    case ey => decide +kernel
    k_extra "w"
    refine' fault_err (tl := T "a\n (bc\n") (n := 7) (by assumption) (by assumption) (by decide +kernel) ?hi1 (Room.deep hr (by decide)) (by rfl) (isE_eq fix_2) ?_
    case hi1 => k_extra "hi"
    intro f2 x2 y2 s4 S4
    k_extra "w"
    refine' r_ne2 (by assumption) ?g1 ?g2 (Room.cl (Room.deep (d' := 0) hr (by decide))) ?ex ?ey ?_
    case g1 => k_extra "mem"
    case g2 => k_extra "mem"
    case ex => decide +kernel
    case ey => decide +kernel
    k_extra "w"
    refine' fault_err (tl := T "''") (n := 1) (by assumption) (by assumption) (by decide +kernel) ?hi1 (Room.deep hr (by decide)) (by rfl) (isE_eq fix_3) ?_
    case hi1 => k_extra "hi"
    intro f3 x3 y3 s5 S5
    k_extra "w"
    refine' r_ne2 (by assumption) ?g1 ?g2 (Room.cl (Room.deep (d' := 0) hr (by decide))) ?ex ?ey ?_
    case g1 => k_extra "mem"
    case g2 => k_extra "mem"
    case ex => decide +kernel
    case ey => decide +kernel
    k_extra "w"
    refine' ⟨_, _, ?m1, ?st⟩
    case st => k_extra "st!"
    case m1 => k_extra "nm"
  case p2 =>
    rintro s2 ⟨m, l2, hm, S2⟩
    k_extra "w"
    refine r_min2 (by assumption) hh ?_
    intro n1 t1 s3 hn1 S3
    k_extra "w"
    refine r_max2 (by assumption) hh ?_
    intro n2 t2 s4 hn2 S4
    obtain ⟨k, hk, hk2⟩ : ∃ k : Nat, n2 = (k : Int) ∧ k ≤ 2 := ⟨n2.toNat, by omega, by omega⟩
    subst hk
    k_extra "w"
    refine r_iter_range (k := k) (by assumption) (by k_extra "mem") rfl (by omega) ?_
    intro it s5 S5
    k_extra "w"
    refine' r_forLoop iter_range hh (fun i l1 => ∃ m l2, m "script" = some (.ref sc) ∧ l1 = (L, fr m) :: l2) ?turn ?done ⟨_, _, ?m1, rfl⟩ trivial ?st
    case st => k_extra "st!"
    case m1 => exact hm
    case turn =>
      rintro i s6 l6 v R Z hR hlt ⟨m, l2, m1, rfl⟩ _ ⟨tv, rfl⟩ S6
      k_extra "w"
      refine' crate_c (k := i) (by assumption) (by assumption) (by assumption) (by assumption) hz ?rr rfl (by omega) (by rfl) ?_
      case rr => k_extra "room"
      intro c s7 S7
      k_extra "w"
      refine' lines_c (by assumption) (by assumption) ?d hh ?rr (by rfl) ?_
      case d => k_extra "del"
      case rr => k_extra "room"
      intro ls t8 s8 hls hlb S8
      k_extra "w"
      refine' spoilt_c (by assumption) (by assumption) ?d ?rr (by rfl) ?_
      case d => k_extra "del"
      case rr => k_extra "room"
      intro i1 a t9 u9 s9 hi1 S9
      k_extra "w"
      refine' unpack_c (k := 3) (by assumption) (by assumption) ?d ?rr rfl (by decide) (by decide) rfl ?_
      case d => k_extra "del"
      case rr => k_extra "room"
      intro j tj s10 hj S10
      k_extra "w"
      refine' m_itemV (ms := behL) (j := j) (by assumption) ?g ?h1 ?h2 rfl hj (by decide) ?_ ?hs
      rotate_left
      case hs => with_unfolding_all rfl
      case g => k_extra "mem"
      case h1 => rfl
      case h2 => rfl
      intro t11
      have hz1 := linesT_len ls hlb
      have hz2 := behL_len hj
      have hz3 := spL_len hi1
      k_extra "w"
      refine r_addS (by assumption) (by show 1 + (behL.getD j []).length ≤ 1048576; omega) ?_
      intro t12 s12 S12
      k_extra "w"
      refine r_addS (by assumption) (by show (linesT ls).length + (spL.getD i1 ([], none)).1.length ≤ 1048576; omega) ?_
      intro t13 s13 S13
      k_extra "w"
      refine r_addS (by assumption) (by show (linesT ls ++ (spL.getD i1 ([], none)).1).length + (10 :: behL.getD j []).length ≤ 1048576; rw [List.length_append, List.length_cons]; omega) ?_
      intro t14 s14 S14
      k_extra "w"
      have hfe := law2_err hlb hls hi1 hj
      have hfo := law2_ok hlb hls hj
      rw [← List.append_assoc] at hfe
      cases hsd : (spL.getD i1 ([], none)).2 with
      | none =>
        rw [hsd] at hfe
        refine is_nn2 ?_
        k_extra "w"
        refine' spotl_c (tl := linesT ls ++ (spL.getD i1 ([], none)).1 ++ 10 :: behL.getD j []) (by assumption) (by assumption) (by simp only [List.length_append, List.length_cons]; omega) ?rr (by rfl) ?_
        case rr => k_extra "room"
        intro a15 x15 y15 s15 S15
        rw [← due_none] at S15
        k_extra "w"
        refine' fault_err (tl := linesT ls ++ (spL.getD i1 ([], none)).1 ++ 10 :: behL.getD j []) (by assumption) (by assumption) (by simp only [List.length_append, List.length_cons]; omega) ?hi2 ?rr (by rfl) hfe ?_
        case hi2 => k_extra "hi"
        case rr => exact Room.deep hr (by decide)
        intro a16 x16 y16 s16 S16
        k_extra "w"
        refine' r_ne2 (by assumption) ?g1 ?g2 (Room.cl (Room.deep (d' := 0) hr (by decide))) ?ex ?ey ?_
        case g1 => k_extra "mem"
        case g2 => k_extra "mem"
        case ex => rfl
        case ey => rfl
        k_extra "w"
        refine r_addS (by assumption) (by show (linesT ls).length + (10 :: behL.getD j []).length ≤ 1048576; rw [List.length_cons]; omega) ?_
        intro t17 s17 S17
        k_extra "w"
        refine' fault_ok (tl := linesT ls ++ 10 :: behL.getD j []) (by assumption) (by assumption) (by simp only [List.length_append, List.length_cons]; omega) ?hi2 ?rr (by rfl) hfo ?_
        case hi2 => k_extra "hi"
        case rr => exact Room.deep hr (by decide)
        intro s18 S18
        k_extra "w"
        refine isnot_nn ?_
        k_extra "w"
        refine' ⟨_, ⟨_, _, ?m1, rfl⟩, trivial, ?st⟩
        rotate_left 2
        case st => k_extra "st!"
        case m1 => k_extra "nm"
      | some d =>
        rw [hsd] at hfe
        have hd := spL_off i1 hi1 d hsd
        refine is_int ?_
        k_extra "w"
        rw [show oi (spL.getD i1 ([], none)).2 u9 = .int (d : Nat) u9 from by rw [hsd]; rfl]
        refine r_slice_to (x := tx (spL.getD i1 ([], none)).1) (n := d) (by assumption) rfl (by show (spL.getD i1 ([], none)).1.length ≤ 1048576; omega) ?_
        intro t15 s15 S15
        k_extra "w"
        refine r_addS (by assumption) (by show (linesT ls).length + ((spL.getD i1 ([], none)).1.take d).length ≤ 1048576; rw [List.length_take]; omega) ?_
        intro t15 s15 S15
        k_extra "w"
        refine' spotl_c (tl := linesT ls ++ (spL.getD i1 ([], none)).1.take d) (by assumption) (by assumption) (by simp only [List.length_append, List.length_take]; omega) ?rr (by rfl) ?_
        case rr => k_extra "room"
        intro a15 x15 y15 s15 S15
        rw [← due_some (bh := behL.getD j []) hd] at S15
        k_extra "w"
        refine' fault_err (tl := linesT ls ++ (spL.getD i1 ([], none)).1 ++ 10 :: behL.getD j []) (by assumption) (by assumption) (by simp only [List.length_append, List.length_cons]; omega) ?hi2 ?rr (by rfl) hfe ?_
        case hi2 => k_extra "hi"
        case rr => exact Room.deep hr (by decide)
        intro a16 x16 y16 s16 S16
        k_extra "w"
        refine' r_ne2 (by assumption) ?g1 ?g2 (Room.cl (Room.deep (d' := 0) hr (by decide))) ?ex ?ey ?_
        case g1 => k_extra "mem"
        case g2 => k_extra "mem"
        case ex => rfl
        case ey => rfl
        k_extra "w"
        refine r_addS (by assumption) (by show (linesT ls).length + (10 :: behL.getD j []).length ≤ 1048576; rw [List.length_cons]; omega) ?_
        intro t17 s17 S17
        k_extra "w"
        refine' fault_ok (tl := linesT ls ++ 10 :: behL.getD j []) (by assumption) (by assumption) (by simp only [List.length_append, List.length_cons]; omega) ?hi2 ?rr (by rfl) hfo ?_
        case hi2 => k_extra "hi"
        case rr => exact Room.deep hr (by decide)
        intro s18 S18
        k_extra "w"
        refine isnot_nn ?_
        k_extra "w"
        refine' ⟨_, ⟨_, _, ?m1, rfl⟩, trivial, ?st⟩
        rotate_left 2
        case st => k_extra "st!"
        case m1 => k_extra "nm"
    case done =>
      rintro s6 l6 ⟨m, l2, m1, rfl⟩ S6
      k_extra "w"
      exact h _ _ (by k_extra "st!")
end
section
variable {prog : Program} {w : World} {M : Model} {E : Value → Shared → Prop}
theorem goodW_true {c : PySem.W.ClaimW} {cl : Str → Option Addr} {mean : ExcName → Option Value} {args : List PySem.W.WData} {s₁ s' : Shared} {b : Bs} {l : Led} (S : St b s' l) (hB : b.B = s₁.heap) (hg : b.gens = #[]) (ho : b.os = s₁.os)
    (hn : ∀ cls, c.raises args cls = false) (hp : c.post args (.bool true) args = true) : PySem.W.GoodW c cl mean args s₁ (.ok (.ret (.bool true))) s' :=
  ⟨.inl ⟨_, _, [], rfl, hn, .bool true, hp, unshared_nil⟩, fun b o h => S.stays b o (by rw [hB]; exact h), S.os.trans ho, S.gens.trans hg⟩
theorem room_caller : Room callerA 30 := ⟨by decide, by decide⟩
theorem hi_caller : Hi callerA [] := ⟨rfl, [], rfl, fun _ h => by cases h⟩
theorem st_base {s : Shared} : St ⟨s.heap, s.gens, s.drawn, s.os⟩ s [] := by
  refine ⟨rfl, rfl, rfl, fun _ _ h => h, fun p h => ?_, fun p h => ?_, List.nodup_nil⟩
  · cases h
  · cases h
end
open PySem.W in
theorem law_holds : PySem.Challenge.rw_pq0703_02.Holds := ph.hd (by
  k_fill
  intro w s₀ s₁ mg mb G Y fa o pm cd doc dV kV ho hd hcd hD hmg hg args vals as hpre hlay hrd hwl hlo
  have KX := kIn_of Y
  have X := (Ground.X G).1
  have V := (Ground.X G).2
  refine Ground.open G ?_
  intro T B D TE TW
  try (refine guard_noD D (by decide +kernel) ?_; clear D)
  wrow_args hpre hlay hrd hwl hlo
  have hfa : fa = 347 := by
    have e1 := mg_of (n := "law") (v := .ref 347) KX T.g (by kernel_rfl)
    exact Value.ref.inj (Option.some.inj (hmg.symm.trans e1))
  subst hfa
  have WD : Wd (KK w) ⟨s₁.heap, s₁.gens, s₁.drawn, s₁.os⟩ := ⟨KX, T.nolimit, ⟨_, T.g⟩, ⟨_, T.b, T.builtins⟩⟩
  refine law_c WD st_base (by assumption) (by assumption) ?_ hi_caller room_caller rfl ?_
  · refine Nat.le_trans (Nat.le_of_eq (IntsAre.length (by assumption))) ?_
    omega
  · intro s' l' S'
    refine GoodW.toG (goodW_true S' rfl ?_ rfl (raisesW_false ?_) ?_)
    · exact hg
    · wrow_none_raised
    · wrow_post)
end Mine
theorem PySem.Challenge.cw_pq0703_02_holds : PySem.Challenge.rw_pq0703_02.Holds :=
  Mine.law_holds
