import PyProof.Rows.All
import Wide.All
import OpenK.AllK
import Wide.FinOn
import Lean
import PySem.Challenge.RW_nu0331_01
open PySem PySem.W PyProof.Rows
set_option Elab.async false
set_option linter.unusedVariables false
set_option maxRecDepth 100000
namespace Mine

/-- what a value is, its token forgotten -/
inductive AV where
  | none
  | bool (b : Bool)
  | int (i : Int)
  | str (x : Str)
  | ref (a : Addr)

def AV.ok : AV → Value → Prop
  | .none, v => v = .none
  | .bool b, v => v = .bool b
  | .int i, v => ∃ t, v = .int i t
  | .str x, v => ∃ t, v = .str x t
  | .ref a, v => v = .ref a

inductive Oks : List AV → List Value → Prop
  | nil : Oks [] []
  | cons {a v as vs} : a.ok v → Oks as vs → Oks (a :: as) (v :: vs)

/-- what an object is -/
inductive AO where
  | list (xs : List AV)
  | tup (xs : List AV)
  | inst (C d : Addr) (fs : List (Str × AV))
  | own (a : Addr)
  | raw (o : Obj)
  | dic (o : Obj)

abbrev AH := Addr → Option AO
def AH.set (H : AH) (a : Addr) (o : AO) : AH := fun b => if b = a then some o else H b
abbrev Rho := Nat → Option AV
def Rho.set (r : Rho) (i : Nat) (v : AV) : Rho := fun j => if j = i then some v else r j

inductive Fields (P : Params) : List (Str × AV) → List DictEntry → Prop
  | nil : Fields P [] []
  | cons {x a t v fs es} : a.ok v → Fields P fs es → Fields P ((x, a) :: fs) (⟨PyData.keyHash P x, .str x t, v⟩ :: es)

def AbsAt (P : Params) (news : List (Addr × Obj)) (a : Addr) : AO → Prop
  | .list xs => ∃ vs n, (a, listOf vs n) ∈ news ∧ Oks xs vs.toList
  | .tup xs => ∃ vs n, (a, ({ cls := .type "tuple", data := .seq vs n } : Obj)) ∈ news ∧ Oks xs vs.toList
  | .inst C d fs => ∃ es n, (a, instObj C d) ∈ news ∧ (d, dictOf es n) ∈ news ∧ Fields P fs es
  | .own _ => ∃ o, (a, o) ∈ news
  | .raw o => (a, o) ∈ news
  | .dic o => (a, o) ∈ news

def Sep (H : AH) : Prop := ∀ a C d fs, H a = some (.inst C d fs) → H d = some (.own a)

def okNames (l : List (Str × NameKind)) : Bool := decide ((l.map (·.1)).Nodup) && l.all fun y => !(y.1 == ("__debug__" : Str))

structure Cx where
  A : Around
  h₀ : Heap
  L : Addr
  qual : Str
  scope : Scope
  f : Addr
  cdv : Value
  r : Nat
abbrev Cx.env (C : Cx) : Env := envX C.qual C.scope C.L C.f C.cdv []

structure Cx.Ok (w : World) (K : Frag) (C : Cx) : Prop where
  ctx : ∃ A₀ base outer, Below A₀ base outer C.h₀ ∧ C.A.frames = some (C.env :: outer)
  kin : K.In C.h₀
  top : ∃ p loose mean mg mb, Top p loose mean mg mb C.h₀
  kind : C.scope.kind = .function
  names : okNames C.scope.names = true
  hh : C.A.handled = none
  room : C.A.depth + C.r < recursionLimit
  units : C.A.units + 8 * C.r + 8 < cLine

def FrOk (C : Cx) (ρ : Rho) (m : Str → Option Value) : Prop :=
  ∀ i x av, C.scope.names[i]? = some (x, .local) → ρ i = some av → ∃ v, m x = some v ∧ av.ok v

structure St (w : World) (K : Frag) (C : Cx) (ρ : Rho) (H : AH) (h : Heap) : Prop where
  ok : C.Ok w K
  sep : Sep H
  at_ : ∃ m news, Fr C.h₀ C.L h m ∧ News C.h₀ C.L h news ∧ FrOk C ρ m ∧ ∀ a o, H a = some o → AbsAt w.params news a o

theorem AbsAt.mono {P : Params} {news news' : List (Addr × Obj)} {a : Addr} {o : AO} (h : AbsAt P news a o) (k : ∀ p ∈ news, p ∈ news') : AbsAt P news' a o := by
  cases o with
  | list xs => obtain ⟨vs, n, h, r⟩ := h; exact ⟨vs, n, k _ h, r⟩
  | tup xs => obtain ⟨vs, n, h, r⟩ := h; exact ⟨vs, n, k _ h, r⟩
  | inst C d fs => obtain ⟨es, n, h, h2, r⟩ := h; exact ⟨es, n, k _ h, k _ h2, r⟩
  | own b => obtain ⟨o, h⟩ := h; exact ⟨o, k _ h⟩
  | raw o => exact k _ h
  | dic o => exact k _ h

variable {prog : Program} {w : World} {K : Frag} {C : Cx} {ρ ρ' : Rho} {H H' : AH} {h h' : Heap}

theorem St.live (S : St w K C ρ H h) {a : Addr} {o : AO} (e : H a = some o) : ∃ ob, h.get? a = some ob ∧ a ≠ C.L ∧ C.h₀.get? a = none := by
  obtain ⟨m, news, F, N, fo, ab⟩ := S.at_
  have q := ab a o e
  cases o with
  | list xs => obtain ⟨vs, n, h, r⟩ := q; exact ⟨_, N _ h⟩
  | tup xs => obtain ⟨vs, n, h, r⟩ := q; exact ⟨_, N _ h⟩
  | inst C d fs => obtain ⟨es, n, h, h2, r⟩ := q; exact ⟨_, N _ h⟩
  | own b => obtain ⟨o, h⟩ := q; exact ⟨_, N _ h⟩
  | raw o => exact ⟨_, N _ q⟩
  | dic o => exact ⟨_, N _ q⟩

/-- forget: fewer facts -/
theorem St.less (S : St w K C ρ H h) (sp : Sep H') (le : ∀ a o, H' a = some o → H a = some o) (lr : ∀ i v, ρ' i = some v → ρ i = some v) : St w K C ρ' H' h := by
  obtain ⟨m, news, F, N, fo, ab⟩ := S.at_
  exact ⟨S.ok, sp, m, news, F, N, fun i x av e1 e2 => fo i x av e1 (lr _ _ e2), fun a o e => ab a o (le a o e)⟩

theorem AH.set_self {H : AH} {a : Addr} {o : AO} : H.set a o a = some o := if_pos rfl
theorem AH.set_ne {H : AH} {a b : Addr} {o : AO} (n : b ≠ a) : H.set a o b = H b := if_neg n
theorem AH.set_keep {H : AH} {a b : Addr} {o o' : AO} (n : H a = none) (e : H b = some o') : H.set a o b = some o' := by
  rw [AH.set_ne]; exact e
  intro q; rw [q, n] at e; cases e

abbrev M (prog : Program) (w : World) : Model := model prog w

/-- an expression whose running changes nothing that we know: its value -/
def EvP (prog : Program) (w : World) (K : Frag) (C : Cx) (ρ : Rho) (H : AH) (e : PySem.Expr) (av : AV) : Prop :=
  ∀ (s : Shared) (Q : Value → Shared → Prop) (E : Value → Shared → Prop), St w K C ρ H s.heap →
    (∀ v h' tk, av.ok v → St w K C ρ H h' → Q v { s with heap := h', toks := tk }) → wpAny (model prog w) C.A (eval e C.env) Q E s
def EvG (prog : Program) (w : World) (K : Frag) (C : Cx) (ρ : Rho) (H : AH) (e : PySem.Expr) (P : AV → AH → Prop) : Prop :=
  ∀ (s : Shared) (Q : Value → Shared → Prop) (E : Value → Shared → Prop), St w K C ρ H s.heap →
    (∀ av H' v h' tk, P av H' → av.ok v → St w K C ρ H' h' → Q v { s with heap := h', toks := tk }) → wpAny (model prog w) C.A (eval e C.env) Q E s
/-- a test -/
def TsP (prog : Program) (w : World) (K : Frag) (C : Cx) (ρ : Rho) (H : AH) (e : PySem.Expr) (b : Bool) : Prop :=
  ∀ (s : Shared) (Q : Bool → Shared → Prop) (E : Value → Shared → Prop), St w K C ρ H s.heap →
    (∀ h' tk, St w K C ρ H h' → Q b { s with heap := h', toks := tk }) → wpAny (model prog w) C.A (isTrue e C.env (eval e C.env)) Q E s

inductive AF where
  | next | brk | cont
  | ret (v : AV)
def AF.ok : AF → Flow → Prop
  | .next, f => f = .next
  | .brk, f => f = .brk
  | .cont, f => f = .cont
  | .ret a, f => ∃ v, f = .ret v ∧ a.ok v
def Exs (prog : Program) (w : World) (K : Frag) (C : Cx) (ρ : Rho) (H : AH) (b : List Stmt) (R : AF → Rho → AH → Prop) : Prop :=
  ∀ (s : Shared) (Q : Flow → Shared → Prop) (E : Value → Shared → Prop), St w K C ρ H s.heap →
    (∀ af ρ' H' f h' tk, R af ρ' H' → af.ok f → St w K C ρ' H' h' → Q f { s with heap := h', toks := tk }) → wpAny (model prog w) C.A (execs b C.env) Q E s
def Ex1 (prog : Program) (w : World) (K : Frag) (C : Cx) (ρ : Rho) (H : AH) (b : Stmt) (R : AF → Rho → AH → Prop) : Prop :=
  ∀ (s : Shared) (Q : Flow → Shared → Prop) (E : Value → Shared → Prop), St w K C ρ H s.heap →
    (∀ af ρ' H' f h' tk, R af ρ' H' → af.ok f → St w K C ρ' H' h' → Q f { s with heap := h', toks := tk }) → wpAny (model prog w) C.A (exec b C.env) Q E s

theorem EvP.g {e : PySem.Expr} {av : AV} {P : AV → AH → Prop} (x : EvP prog w K C ρ H e av) (p : P av H) : EvG prog w K C ρ H e P :=
  fun s Q E S k => x s Q E S fun v h' tk o S' => k _ _ _ _ _ p o S'
theorem EvG.imp {e : PySem.Expr} {P P' : AV → AH → Prop} (x : EvG prog w K C ρ H e P) (i : ∀ a H', P a H' → P' a H') : EvG prog w K C ρ H e P' :=
  fun s Q E S k => x s Q E S fun av H' v h' tk p o S' => k _ _ _ _ _ (i _ _ p) o S'
theorem Exs.imp {b : List Stmt} {R R' : AF → Rho → AH → Prop} (x : Exs prog w K C ρ H b R) (i : ∀ a r h, R a r h → R' a r h) : Exs prog w K C ρ H b R' :=
  fun s Q E S k => x s Q E S fun af ρ' H' f h' tk r o S' => k _ _ _ _ _ _ (i _ _ _ r) o S'

/-- what is behind a statement: the rest -/
def Seq (prog : Program) (w : World) (K : Frag) (C : Cx) (rest : List Stmt) (R : AF → Rho → AH → Prop) (f : AF) (ρ : Rho) (H : AH) : Prop :=
  match f with
  | .next => Exs prog w K C ρ H rest R
  | f => R f ρ H

theorem exs_nil {R : AF → Rho → AH → Prop} (r : R .next ρ H) : Exs prog w K C ρ H [] R :=
  fun s Q E S k => wpAny_execs_nil (k .next ρ H .next s.heap s.toks r rfl S)
theorem exs_cons {st : Stmt} {rest : List Stmt} {R : AF → Rho → AH → Prop} (x : Ex1 prog w K C ρ H st (Seq prog w K C rest R)) : Exs prog w K C ρ H (st :: rest) R := by
  intro s Q E S k
  refine wpAny_execs_cons (x s _ E S fun af ρ' H' f h' tk r o S' => ?_)
  cases af with
  | next => cases o; exact r { s with heap := h', toks := tk } Q E S' k
  | brk => cases o; exact k .brk _ _ _ _ _ r rfl S'
  | cont => cases o; exact k .cont _ _ _ _ _ r rfl S'
  | ret a => obtain ⟨v, rfl, ov⟩ := o; exact k (.ret a) _ _ _ _ _ r ⟨v, rfl, ov⟩ S'

theorem ex_if {t : PySem.Expr} {b o : List Stmt} {pos : Pos} {c : Bool} {R : AF → Rho → AH → Prop} (T : TsP prog w K C ρ H t c) (y : c = true → Exs prog w K C ρ H b R) (n : c = false → Exs prog w K C ρ H o R) :
    Ex1 prog w K C ρ H (.If t b o pos) R := by
  intro s Q E S k
  refine wpAny_If (T s _ E S fun h' tk S' => ?_)
  cases c with
  | true => rw [if_pos rfl]; exact y rfl _ Q E S' k
  | false => rw [if_neg Bool.false_ne_true]; exact n rfl _ Q E S' k
theorem ex_ret {e : PySem.Expr} {pos : Pos} {av : AV} {R : AF → Rho → AH → Prop} (x : EvP prog w K C ρ H e av) (r : R (.ret av) ρ H) : Ex1 prog w K C ρ H (.Return (some e) pos) R :=
  fun s Q E S k => wpAny_Return_some (x s _ E S fun v h' tk o S' => k _ _ _ _ _ _ r ⟨v, rfl, o⟩ S')
theorem ex_retG {e : PySem.Expr} {pos : Pos} {P : AV → AH → Prop} {R : AF → Rho → AH → Prop} (x : EvG prog w K C ρ H e P) (r : ∀ av H', P av H' → R (.ret av) ρ H') : Ex1 prog w K C ρ H (.Return (some e) pos) R :=
  fun s Q E S k => wpAny_Return_some (x s _ E S fun av H' v h' tk p o S' => k _ _ _ _ _ _ (r _ _ p) ⟨v, rfl, o⟩ S')
theorem ex_brk {pos : Pos} {R : AF → Rho → AH → Prop} (r : R .brk ρ H) : Ex1 prog w K C ρ H (.Break pos) R := fun s Q E S k => wpAny_Break (k .brk _ _ _ s.heap s.toks r rfl S)
theorem ex_cont {pos : Pos} {R : AF → Rho → AH → Prop} (r : R .cont ρ H) : Ex1 prog w K C ρ H (.Continue pos) R := fun s Q E S k => wpAny_Continue (k .cont _ _ _ s.heap s.toks r rfl S)

theorem lookup_of_names : ∀ {l : List (Str × NameKind)} {i : Nat} {x : Str} {k : NameKind}, (l.map (·.1)).Nodup → l[i]? = some (x, k) → l.lookup x = some k
  | [], _, _, _, _, e => by simp at e
  | (y, ky) :: l, 0, x, k, _, e => by
    simp at e; obtain ⟨rfl, rfl⟩ := e; simp
  | (y, ky) :: l, i + 1, x, k, nd, e => by
    simp at e
    simp only [List.map_cons, List.nodup_cons] at nd
    have hne : (x == y) = false := by
      rw [beq_eq_false_iff_ne]; rintro rfl
      exact nd.1 (List.mem_map.mpr ⟨(x, k), List.mem_of_getElem? e, rfl⟩)
    rw [List.lookup_cons, hne]
    exact lookup_of_names nd.2 e
theorem names_inj {l : List (Str × NameKind)} {i j : Nat} {x : Str} {k k' : NameKind} (nd : (l.map (·.1)).Nodup) (e1 : l[i]? = some (x, k)) (e2 : l[j]? = some (x, k')) : i = j := by
  have h1 : (l.map (·.1))[i]? = some x := by simp [e1]
  have h2 : (l.map (·.1))[j]? = some x := by simp [e2]
  have hi := (List.getElem?_eq_some_iff.mp h1).1
  exact (List.getElem?_inj hi nd).mp (h1.trans h2.symm)
theorem Cx.Ok.nd (o : C.Ok w K) : (C.scope.names.map (·.1)).Nodup := by
  have := o.names; unfold okNames at this; exact of_decide_eq_true (Bool.and_eq_true_iff.mp this).1
theorem Cx.Ok.dbg (o : C.Ok w K) {i : Nat} {x : Str} {k : NameKind} (e : C.scope.names[i]? = some (x, k)) : (x == ("__debug__" : Str)) = false := by
  have := o.names; unfold okNames at this
  have := List.all_eq_true.mp (Bool.and_eq_true_iff.mp this).2 _ (List.mem_of_getElem? e)
  simpa using this

theorem ev_local {x : Str} {pos : Pos} {av : AV} (i : Nat) (e : C.scope.names[i]? = some (x, .local)) (r : ρ i = some av) : EvP prog w K C ρ H (.Name x pos) av := by
  intro s Q E S k
  obtain ⟨m, news, F, N, fo, ab⟩ := S.at_
  obtain ⟨v, hv, o⟩ := fo i x av e r
  exact nameX_L F hv (k v s.heap s.toks o S) S.ok.kind (lookup_of_names S.ok.nd e) (S.ok.dbg e)

theorem ev_int {i : Int} {k : Nat} {pos : Pos} : EvP prog w K C ρ H (.Constant (.int i) k pos) (.int i) := fun s Q E S k => wpAny_Constant_int (k _ s.heap _ ⟨_, rfl⟩ S)
theorem ev_str {x : Str} {k : Nat} {pos : Pos} : EvP prog w K C ρ H (.Constant (.str x) k pos) (.str x) := fun s Q E S k => Calls.Constant_str (k _ s.heap _ ⟨_, rfl⟩ S)
theorem ev_bool {b : Bool} {k : Nat} {pos : Pos} : EvP prog w K C ρ H (.Constant (.bool b) k pos) (.bool b) := fun s Q E S k => Constant_bool (k _ s.heap s.toks rfl S)
theorem ev_none {k : Nat} {pos : Pos} : EvP prog w K C ρ H (.Constant .none k pos) .none := fun s Q E S k => Constant_none (k _ s.heap s.toks rfl S)

theorem St.store {x : Str} {av : AV} {v : Value} {i : Nat} {m : Str → Option Value} {news : List (Addr × Obj)} (S : St w K C ρ H h) (e : C.scope.names[i]? = some (x, .local)) (o : av.ok v)
    (F : Fr C.h₀ C.L h' (fun y => if y = x then some v else m y)) (N : News C.h₀ C.L h' news) (fo : FrOk C ρ m) (ab : ∀ a o, H a = some o → AbsAt w.params news a o) : St w K C (ρ.set i av) H h' := by
  refine ⟨S.ok, S.sep, _, news, F, N, fun j y av' e1 e2 => ?_, ab⟩
  unfold Rho.set at e2
  by_cases hj : j = i
  · subst hj
    rw [if_pos rfl] at e2; cases e2
    rw [e] at e1; cases e1
    exact ⟨v, if_pos rfl, o⟩
  · rw [if_neg hj] at e2
    obtain ⟨v', hv, ov⟩ := fo j y av' e1 e2
    refine ⟨v', ?_, ov⟩
    have : y ≠ x := fun q => hj (names_inj S.ok.nd e1 (q ▸ e))
    simpa [this] using hv

theorem ex_assign {x : Str} {xp pos : Pos} {e : PySem.Expr} {P : AV → AH → Prop} {R : AF → Rho → AH → Prop} (i : Nat) (n : C.scope.names[i]? = some (x, .local)) (X : EvG prog w K C ρ H e P)
    (r : ∀ av H', P av H' → R .next (ρ.set i av) H') (hsw : swapsWith e (some (.Name x xp)) pos.line C.env = pure false := by rfl) : Ex1 prog w K C ρ H (.Assign [.Name x xp] e pos) R := by
  intro s Q E S k
  refine wpAny_Assign_Name (X s _ E S fun av H' v h' tk p o S' => ?_) hsw
  obtain ⟨m, news, F, N, fo, ab⟩ := S'.at_
  refine storeX_L (s := { s with heap := h', toks := tk }) F N (fun h'' F'' N'' => ?_) S'.ok.kind (lookup_of_names S'.ok.nd n)
  exact k .next _ _ _ _ _ (r _ _ p) rfl (S'.store n o F'' N'' fo ab)
theorem ex_assignP {x : Str} {xp pos : Pos} {e : PySem.Expr} {av : AV} {R : AF → Rho → AH → Prop} (i : Nat) (n : C.scope.names[i]? = some (x, .local)) (X : EvP prog w K C ρ H e av)
    (r : R .next (ρ.set i av) H) (hsw : swapsWith e (some (.Name x xp)) pos.line C.env = pure false := by rfl) : Ex1 prog w K C ρ H (.Assign [.Name x xp] e pos) R :=
  ex_assign i n (X.g (P := fun a h => a = av ∧ h = H) ⟨rfl, rfl⟩) (fun a h ⟨e1, e2⟩ => by subst e1 e2; exact r) hsw
end Mine
namespace Mine
variable {prog : Program} {w : World} {K : Frag} {C : Cx} {ρ ρ' : Rho} {H H' : AH} {h h' : Heap}

def lookF (x : Str) : List (Str × AV) → Option AV
  | [] => none
  | (y, a) :: r => if y == x then some a else lookF x r
def putF (x : Str) (v : AV) : List (Str × AV) → List (Str × AV)
  | [] => [(x, v)]
  | (y, a) :: r => if y == x then (y, v) :: r else (y, a) :: putF x v r

theorem AV.ok.handed {a : AV} {v : Value} (o : a.ok v) : handedIn v = true := by
  cases a with
  | none => cases o; rfl
  | bool b => cases o; rfl
  | int i => obtain ⟨t, rfl⟩ := o; rfl
  | str i => obtain ⟨t, rfl⟩ := o; rfl
  | ref i => cases o; rfl

theorem Fields.noRef {P : Params} {fs : List (Str × AV)} {es : List DictEntry} (F : Fields P fs es) : es.any (·.refKey) = false := by
  induction F with
  | nil => rfl
  | cons o _ ih => rw [List.any_cons, ih]; rfl
theorem Fields.length {P : Params} {fs : List (Str × AV)} {es : List DictEntry} (F : Fields P fs es) : es.length = fs.length := by
  induction F with
  | nil => rfl
  | cons o _ ih => rw [List.length_cons, List.length_cons, ih]
theorem Fields.find {P : Params} {fs : List (Str × AV)} {es : List DictEntry} {x : Str} {a : AV} (F : Fields P fs es) (e : lookF x fs = some a) : ∃ v, (es.find? (·.key.isStr x)).map (·.val) = some v ∧ a.ok v := by
  induction F with
  | nil => cases e
  | @cons y a' t v fs es o _ ih =>
    unfold lookF at e
    rw [List.find?_cons]
    show ∃ v', Option.map _ (match (y == x) with | true => _ | false => _) = some v' ∧ _
    cases h : (y == x) with
    | true => rw [h] at e; cases e; exact ⟨v, rfl, o⟩
    | false => rw [h] at e; exact ih e
theorem Fields.get {P : Params} {fs : List (Str × AV)} {es : List DictEntry} {x : Str} {a : AV} (F : Fields P fs es) (e : lookF x fs = some a) : ∃ v, getL x es = some (some v) ∧ a.ok v := by
  obtain ⟨v, hv, o⟩ := F.find e
  refine ⟨v, ?_, o⟩
  unfold getL
  cases h : es.find? (·.key.isStr x) with
  | none => rw [h] at hv; cases hv
  | some en => rw [h] at hv; cases hv; rfl
theorem Fields.getSome {P : Params} {fs : List (Str × AV)} {es : List DictEntry} (x : Str) (F : Fields P fs es) : (getL x es).isSome = true := by
  unfold getL
  cases h : es.find? (·.key.isStr x) with
  | none => simp only [F.noRef]; rfl
  | some en => rfl
theorem Fields.put {P : Params} {fs : List (Str × AV)} {es : List DictEntry} {x : Str} {a : AV} {t : Tok} {v : Value} (F : Fields P fs es) (o : a.ok v) : Fields P (putF x a fs) (putL x (PyData.keyHash P x) (.str x t) v es) := by
  induction F with
  | nil => exact .cons o .nil
  | @cons y a' t' v' fs es o' F' ih =>
    unfold putF putL
    show Fields P _ (if (y == x) = true then _ else _)
    cases h : (y == x) with
    | true => rw [if_pos rfl, if_pos rfl]; exact .cons o F'
    | false => rw [if_neg Bool.false_ne_true, if_neg Bool.false_ne_true]; exact .cons o' ih
theorem putF_length (x : Str) (a : AV) : ∀ fs : List (Str × AV), (putF x a fs).length ≤ fs.length + 1
  | [] => Nat.le_refl _
  | (y, b) :: r => by
    unfold putF
    split
    · simp
    · have := putF_length x a r; simp only [List.length_cons]; omega

/-- what reading an attribute asks of the class -/
def attrOk (K : Frag) (C : Addr) (name : Str) : Bool := plainGet K C name && hasDictIn K C && (findIn K (.ref C) name).any (noGet K)
def setOk (K : Frag) (C : Addr) (name : Str) : Bool := (findIn K (.ref C) "__setattr__" == some (some (.builtin "object.__setattr__"))) && plainOver K C && (takerIn K C name == some none) && hasDictIn K C

theorem inst_at {P : Params} {news : List (Addr × Obj)} {h₀ : Heap} {L a Cc d : Addr} {es : List DictEntry} {n : Nat} (N : News h₀ L h news) (h1 : (a, instObj Cc d) ∈ news) (h2 : (d, dictOf es n) ∈ news) :
    InstAt h a (instObj Cc d) Cc (some (dictOf es n)) := InstAt.of_news N h1 h2

theorem getattr_own {s : Shared} {a Cc d : Addr} {fs : List (Str × AV)} {name : Str} {av : AV} {expr : Bool} {Q : Value → Shared → Prop} {E : Value → Shared → Prop} (S : St w K C ρ H s.heap) (e : H a = some (.inst Cc d fs)) (l : lookF name fs = some av) (ok : attrOk K Cc name = true)
    (k : ∀ v tk, av.ok v → Q v { s with toks := tk }) : wpAny (model prog w) C.A (getAttr (.ref a) name expr) Q E s := by
  obtain ⟨m, news, F, N, fo, ab⟩ := S.at_
  obtain ⟨es, n, h1, h2, Fs⟩ := ab a _ e
  obtain ⟨v, hv, o⟩ := Fs.get l
  unfold attrOk at ok
  simp only [Bool.and_eq_true] at ok
  obtain ⟨⟨ok1, ok2⟩, ok3⟩ := ok
  obtain ⟨at_, hf, hn⟩ := Option.any_eq_true _ _ |>.mp ok3
  exact get_own F S.ok.kin (InstAt.of_news N h1 h2) ok1 ok2 hf hn hv o.handed (k v _ o)

theorem ev_attr_ {e : PySem.Expr} {name : Str} {pos : Pos} {a Cc d : Addr} {fs : List (Str × AV)} {av : AV}
    (he : eval (.Attribute e name pos) C.env = (do let o ← eval e C.env; standAt pos.atName; let r ← holding [o] (getAttr o name true); letTemporaryGo e o r; pure r))
    (X : EvP prog w K C ρ H e (.ref a)) (o : H a = some (.inst Cc d fs)) (l : lookF name fs = some av) (ok : attrOk K Cc name = true) :
    EvP prog w K C ρ H (.Attribute e name pos) av := by
  intro s Q E S k
  refine Attribute_any_ (X s _ E S fun v h' tk ov S' => ?_) he
  cases ov
  exact getattr_own (s := { s with heap := h', toks := tk }) S' o l ok fun v tk' ov => k v _ _ ov S'
theorem ev_attr {x name : Str} {xp pos : Pos} {a Cc d : Addr} {fs : List (Str × AV)} {av : AV}
    (X : EvP prog w K C ρ H (.Name x xp) (.ref a)) (o : H a = some (.inst Cc d fs)) (l : lookF name fs = some av) (ok : attrOk K Cc name = true) :
    EvP prog w K C ρ H (.Attribute (.Name x xp) name pos) av := ev_attr_ rfl X o l ok
theorem ev_attr2 {e : PySem.Expr} {y name : Str} {yp pos : Pos} {a Cc d : Addr} {fs : List (Str × AV)} {av : AV}
    (X : EvP prog w K C ρ H (.Attribute e y yp) (.ref a)) (o : H a = some (.inst Cc d fs)) (l : lookF name fs = some av) (ok : attrOk K Cc name = true) :
    EvP prog w K C ρ H (.Attribute (.Attribute e y yp) name pos) av := ev_attr_ rfl X o l ok
theorem ev_attr3 {e i : PySem.Expr} {name : Str} {yp pos : Pos} {a Cc d : Addr} {fs : List (Str × AV)} {av : AV}
    (X : EvP prog w K C ρ H (.Subscript e i yp) (.ref a)) (o : H a = some (.inst Cc d fs)) (l : lookF name fs = some av) (ok : attrOk K Cc name = true) :
    EvP prog w K C ρ H (.Attribute (.Subscript e i yp) name pos) av := ev_attr_ rfl X o l ok

/-- one object of the ledger is put in another's place -/
theorem swap_news {h₀ : Heap} {L d : Addr} {news : List (Addr × Obj)} {o : Obj} (N : News h₀ L h news) (hm : (d, o) ∈ news) : News h₀ L h ((d, o) :: news.filter fun p => decide (p.1 ≠ d)) := by
  intro p hp
  rcases List.mem_cons.mp hp with rfl | hp
  · exact N _ hm
  · exact N _ (List.mem_filter.mp hp).1
theorem swap_upd {d : Addr} {news : List (Addr × Obj)} {o o' : Obj} : Upd d o o' ((d, o) :: news.filter fun p => decide (p.1 ≠ d)) ((d, o') :: news.filter fun p => decide (p.1 ≠ d)) :=
  Upd.head fun p hp => by have := (List.mem_filter.mp hp).2; simpa using this
theorem swap_mem {d : Addr} {news : List (Addr × Obj)} {o' : Obj} {p : Addr × Obj} (hp : p ∈ news) (n : p.1 ≠ d) : p ∈ (d, o') :: news.filter fun p => decide (p.1 ≠ d) :=
  .tail _ (List.mem_filter.mpr ⟨hp, by simpa using n⟩)
theorem AbsAt.swap {P : Params} {news : List (Addr × Obj)} {b d : Addr} {o' : Obj} {ao : AO} (x : AbsAt P news b ao) (n : b ≠ d) (n2 : ∀ C d2 fs, ao = .inst C d2 fs → d2 ≠ d) : AbsAt P ((d, o') :: news.filter fun p => decide (p.1 ≠ d)) b ao := by
  cases ao with
  | list xs => obtain ⟨vs, k, h, r⟩ := x; exact ⟨vs, k, swap_mem h n, r⟩
  | tup xs => obtain ⟨vs, k, h, r⟩ := x; exact ⟨vs, k, swap_mem h n, r⟩
  | inst C d2 fs => obtain ⟨es, k, h, h2, r⟩ := x; exact ⟨es, k, swap_mem h n, swap_mem h2 (n2 _ _ _ rfl), r⟩
  | own c => obtain ⟨o, h⟩ := x; exact ⟨o, swap_mem h n⟩
  | raw o => exact swap_mem x n
  | dic o => exact swap_mem x n

theorem news_fun {h₀ : Heap} {L a : Addr} {o o' : Obj} {news : List (Addr × Obj)} (N : News h₀ L h news) (h1 : (a, o) ∈ news) (h2 : (a, o') ∈ news) : o = o' := Option.some.inj ((N _ h1).1.symm.trans (N _ h2).1)

theorem setattr_ {s : Shared} {a Cc d : Addr} {fs : List (Str × AV)} {name : Str} {av : AV} {v : Value} {Q : Unit → Shared → Prop} {E : Value → Shared → Prop} (S : St w K C ρ H s.heap) (e : H a = some (.inst Cc d fs)) (ok : setOk K Cc name = true) (ov : av.ok v) (hz : fs.length < 1000)
    (k : ∀ h' tk, St w K C ρ (H.set a (.inst Cc d (putF name av fs))) h' → Q () { s with heap := h', toks := tk }) : wpAny (model prog w) C.A (setAttr (.ref a) name v) Q E s := by
  obtain ⟨m, news, F, N, fo, ab⟩ := S.at_
  obtain ⟨es, n, h1, h2, Fs⟩ := ab a _ e
  unfold setOk at ok
  simp only [Bool.and_eq_true, beq_iff_eq] at ok
  obtain ⟨⟨⟨ok1, ok2⟩, ok3⟩, ok4⟩ := ok
  have N' := swap_news N h2
  have hd := S.sep a Cc d fs e
  have ne : a ≠ d := fun q => by rw [q] at e; rw [hd] at e; cases e
  have h1' : (a, instObj Cc d) ∈ (d, dictOf es n) :: news.filter fun p => decide (p.1 ≠ d) := swap_mem h1 ne
  refine set_dict (es' := putL name (PyData.keyHash w.params name) (.str name (s.toks + 1)) v es) (n' := putN name es n) F S.ok.kin N' (InstAt.of_news N' h1' (.head _)) rfl ok1 ok2 ok3 ok4 (Fs.getSome name) rfl swap_upd ?_ fun h'' F'' N'' => k h'' _ ⟨S.ok, ?_, m, _, F'', N'', fo, ?_⟩
  · have : Fields w.params (putF name av fs) (putL name (PyData.keyHash w.params name) (.str name (s.toks + 1)) v es) := Fs.put ov
    have := this.length
    have := putF_length name av fs
    omega
  · intro b C2 d2 fs2 e2
    unfold AH.set at e2 ⊢
    by_cases hb : b = a
    · subst hb; rw [if_pos rfl] at e2; cases e2; rw [if_neg (Ne.symm ne)]; exact hd
    · rw [if_neg hb] at e2
      have := S.sep b C2 d2 fs2 e2
      by_cases hq : d2 = a
      · rw [hq, e] at this; cases this
      · rw [if_neg hq]; exact this
  · intro b o e2
    unfold AH.set at e2
    by_cases hb : b = a
    · subst hb; rw [if_pos rfl] at e2; cases e2
      exact ⟨_, _, swap_mem h1 ne, .head _, Fs.put ov⟩
    · rw [if_neg hb] at e2
      have q := ab b o e2
      by_cases hd2 : b = d
      · subst hd2; rw [hd] at e2; cases e2
        exact ⟨_, .head _⟩
      · refine q.swap hd2 fun C3 d3 fs3 eo q3 => ?_
        subst eo q3
        have := S.sep b C3 d3 fs3 e2
        rw [hd] at this; cases this; exact hb rfl

theorem ex_setattr {o e : PySem.Expr} {name : Str} {tp pos : Pos} {a Cc d : Addr} {fs : List (Str × AV)} {P : AV → AH → Prop} {R : AF → Rho → AH → Prop} (X : EvG prog w K C ρ H e P)
    (r : ∀ av H', P av H' → EvP prog w K C ρ H' o (.ref a) ∧ H' a = some (.inst Cc d fs) ∧ R .next ρ (H'.set a (.inst Cc d (putF name av fs)))) (ok : setOk K Cc name = true) (hz : fs.length < 1000)
    (hsw : swapsWith e (some (.Attribute o name tp)) pos.line C.env = pure false := by rfl) : Ex1 prog w K C ρ H (.Assign [.Attribute o name tp] e pos) R := by
  intro s Q E S k
  refine plainObj_wpAny_Assign_Attribute (X s _ E S fun av H' v h' tk p ov S' => ?_) hsw
  obtain ⟨Y, ha, hr⟩ := r av H' p
  refine Y { s with heap := h', toks := tk } _ E S' fun v2 h2 tk2 ov2 S2 => ?_
  cases ov2
  exact setattr_ (s := { s with heap := h2, toks := tk2 }) S2 ha ok ov hz fun h3 tk3 S3 => k .next _ _ _ _ _ hr rfl S3
end Mine
namespace Mine
variable {prog : Program} {w : World} {K : Frag} {C : Cx} {ρ ρ' : Rho} {H H' : AH} {h h' : Heap}

def cmpAV : CmpOp → AV → AV → Option Bool
  | .Eq, .int a, .int b => some (a == b)
  | .NotEq, .int a, .int b => some (a != b)
  | .Lt, .int a, .int b => some (decide (a < b))
  | .LtE, .int a, .int b => some (decide (a ≤ b))
  | .Gt, .int a, .int b => some (decide (b < a))
  | .GtE, .int a, .int b => some (decide (b ≤ a))
  | .Eq, .str a, .str b => some (a == b)
  | .NotEq, .str a, .str b => some (a != b)
  | .Eq, .bool a, .bool b => some (a == b)
  | .NotEq, .bool a, .bool b => some (a != b)
  | .Is, .none, .none => some true
  | .Is, .ref _, .none => some false
  | .IsNot, .none, .none => some false
  | .IsNot, .ref _, .none => some true
  | _, _, _ => none

theorem cmp_ok {op : CmpOp} {a b : AV} {c : Bool} {va vb : Value} {A : Around} {s : Shared} {Q E : Value → Shared → Prop} (e : cmpAV op a b = some c) (oa : a.ok va) (ob : b.ok vb) (k : Q (.bool c) s) :
    wpAny (model prog w) A (compareOp op va vb) Q E s := by
  unfold cmpAV at e
  split at e
  · obtain ⟨t, rfl⟩ := oa; obtain ⟨u, rfl⟩ := ob; cases e; exact eq_int k
  · obtain ⟨t, rfl⟩ := oa; obtain ⟨u, rfl⟩ := ob; cases e; exact ne_int k
  · obtain ⟨t, rfl⟩ := oa; obtain ⟨u, rfl⟩ := ob; cases e; exact lt_int k
  · obtain ⟨t, rfl⟩ := oa; obtain ⟨u, rfl⟩ := ob; cases e; exact le_int k
  · obtain ⟨t, rfl⟩ := oa; obtain ⟨u, rfl⟩ := ob; cases e; exact gt_int k
  · obtain ⟨t, rfl⟩ := oa; obtain ⟨u, rfl⟩ := ob; cases e; exact ge_int k
  · obtain ⟨t, rfl⟩ := oa; obtain ⟨u, rfl⟩ := ob; cases e; exact eq_str k
  · obtain ⟨t, rfl⟩ := oa; obtain ⟨u, rfl⟩ := ob; cases e; exact ne_str k
  · cases oa; cases ob; cases e; exact eq_bool k
  · cases oa; cases ob; cases e; exact ne_bool k
  · cases oa; cases ob; cases e; exact is_none_none k
  · cases oa; cases ob; cases e; exact is_ref_none k
  · cases oa; cases ob; cases e; exact isnot_none_none k
  · cases oa; cases ob; cases e; exact isnot_ref_none k
  · cases e

theorem ev_cmp {l r : PySem.Expr} {op : CmpOp} {pos : Pos} {a b : AV} {c : Bool} (X : EvP prog w K C ρ H l a) (Y : EvP prog w K C ρ H r b) (e : cmpAV op a b = some c) (hb : behindInMarks op r = false := by rfl) :
    EvP prog w K C ρ H (.Compare l [op] [r] pos) (.bool c) := by
  intro s Q E S k
  refine wpAny_Compare1 (X s _ E S fun v h' tk o S' => ?_) hb
  refine Y { s with heap := h', toks := tk } _ E S' fun v2 h2 tk2 o2 S2 => cmp_ok e o o2 (k (.bool c) h2 tk2 rfl S2)
theorem ts_cmp {l r : PySem.Expr} {op : CmpOp} {pos : Pos} {a b : AV} {c : Bool} (X : EvP prog w K C ρ H l a) (Y : EvP prog w K C ρ H r b) (e : cmpAV op a b = some c) (hb : behindInMarks op r = false := by rfl) :
    TsP prog w K C ρ H (.Compare l [op] [r] pos) c := by
  intro s Q E S k
  refine wpAny_isTrue_Compare1 (X s _ E S fun v h' tk o S' => ?_) hb
  exact Y { s with heap := h', toks := tk } _ E S' fun v2 h2 tk2 o2 S2 => cmp_ok e o o2 (wpAny_truthy_bool (k h2 tk2 S2))

/-- a list of arguments -/
def EvL (prog : Program) (w : World) (K : Frag) (C : Cx) (ρ : Rho) (H : AH) (pos : Pos) (es : List PySem.Expr) (P : List AV → AH → Prop) : Prop :=
  ∀ (s : Shared) (Q : List Value → Shared → Prop) (E : Value → Shared → Prop), St w K C ρ H s.heap →
    (∀ avs H' vs h' tk, P avs H' → Oks avs vs → St w K C ρ H' h' → Q vs { s with heap := h', toks := tk }) → wpAny (model prog w) C.A (spliced (backTo pos (starEach es C.env))) Q E s
theorem evl_nil {pos : Pos} {P : List AV → AH → Prop} (p : P [] H) : EvL prog w K C ρ H pos [] P := fun s Q E S k => Calls.spliced_nil (k _ _ _ s.heap s.toks p .nil S)
theorem evl_cons {pos : Pos} {e : PySem.Expr} {es : List PySem.Expr} {P1 : AV → AH → Prop} {P : List AV → AH → Prop} (X : EvG prog w K C ρ H e P1)
    (Y : ∀ a H1, P1 a H1 → EvL prog w K C ρ H1 pos es (fun as H2 => P (a :: as) H2)) (he : starEach (e :: es) C.env = (false, eval e C.env) :: starEach es C.env := by rfl) : EvL prog w K C ρ H pos (e :: es) P := by
  intro s Q E S k
  rw [he]
  refine Calls.spliced_cons (X s _ E S fun av H1 v h' tk p o S' => ?_)
  exact Y av H1 p { s with heap := h', toks := tk } _ E S' fun avs H2 vs h2 tk2 p2 o2 S2 => k (av :: avs) H2 (v :: vs) h2 tk2 p2 (.cons o o2) S2
theorem evl_consP {pos : Pos} {e : PySem.Expr} {es : List PySem.Expr} {a : AV} {P : List AV → AH → Prop} (X : EvP prog w K C ρ H e a)
    (Y : EvL prog w K C ρ H pos es (fun as H2 => P (a :: as) H2)) (he : starEach (e :: es) C.env = (false, eval e C.env) :: starEach es C.env := by rfl) : EvL prog w K C ρ H pos (e :: es) P :=
  evl_cons (X.g (P := fun b h => b = a ∧ h = H) ⟨rfl, rfl⟩) (fun b h ⟨e1, e2⟩ => by subst e1 e2; exact Y) he

/-- the arguments' values, nothing else turned -/
inductive EvLP (prog : Program) (w : World) (K : Frag) (C : Cx) (ρ : Rho) (H : AH) : List PySem.Expr → List AV → Prop
  | nil : EvLP prog w K C ρ H [] []
  | cons {e es a as} : EvP prog w K C ρ H e a → (starEach (e :: es) C.env = (false, eval e C.env) :: starEach es C.env) → EvLP prog w K C ρ H es as → EvLP prog w K C ρ H (e :: es) (a :: as)
theorem EvLP.l {pos : Pos} {es : List PySem.Expr} {as : List AV} (x : EvLP prog w K C ρ H es as) : ∀ {P : List AV → AH → Prop}, P as H → EvL prog w K C ρ H pos es P := by
  induction x with
  | nil => exact fun p => evl_nil p
  | cons X he _ ih => exact fun p => evl_consP X (ih p) he

theorem Oks.len {as : List AV} {vs : List Value} (o : Oks as vs) : vs.length = as.length := by
  induction o with
  | nil => rfl
  | cons _ _ ih => rw [List.length_cons, List.length_cons, ih]
theorem Oks.get {as : List AV} {vs : List Value} (o : Oks as vs) : ∀ {i : Nat} {a : AV}, as[i]? = some a → ∃ v, vs[i]? = some v ∧ a.ok v := by
  induction o with
  | nil => intro i a e; simp at e
  | cons o _ ih =>
    intro i a e
    cases i with
    | zero => simp at e; subst e; exact ⟨_, by simp, o⟩
    | succ i => simp at e; simpa using ih e
theorem Oks.strs {xs : List Str} : ∀ {vs : List Value}, Oks (xs.map .str) vs → StrsAre vs xs := by
  induction xs with
  | nil => intro vs o; cases o; exact .nil
  | cons x xs ih => intro vs o; cases o with | cons a b => obtain ⟨t, rfl⟩ := a; exact .cons _ _ (ih b)

/-- a fresh object: the state with it -/
theorem St.fresh (S : St w K C ρ H h) {a : Addr} {o : AO} {m : Str → Option Value} {news : List (Addr × Obj)} {ob : Obj} (hn : H a = none) (F : Fr C.h₀ C.L h' m) (N : News C.h₀ C.L h' ((a, ob) :: news))
    (fo : FrOk C ρ m) (ab : ∀ b o, H b = some o → AbsAt w.params news b o) (x : AbsAt w.params ((a, ob) :: news) a o) (ni : ∀ C d fs, o ≠ .inst C d fs) : St w K C ρ (H.set a o) h' := by
  refine ⟨S.ok, fun b C2 d2 fs2 e2 => ?_, m, _, F, N, fo, fun b o2 e2 => ?_⟩
  · unfold AH.set at e2
    by_cases hb : b = a
    · rw [if_pos hb] at e2; cases e2; exact absurd rfl (ni _ _ _)
    · rw [if_neg hb] at e2; exact AH.set_keep hn (S.sep b C2 d2 fs2 e2)
  · unfold AH.set at e2
    by_cases hb : b = a
    · rw [if_pos hb] at e2; cases e2; rw [hb]; exact x
    · rw [if_neg hb] at e2; exact (ab b o2 e2).mono fun p hp => .tail _ hp
theorem St.noneNew (S : St w K C ρ H h) : H h.objs.size = none := by
  cases q : H h.objs.size with
  | none => rfl
  | some o => obtain ⟨ob, e, _⟩ := S.live q; exact absurd (Heap.lt_size e) (Nat.lt_irrefl _)

theorem sizeLine_big : 16777216 ≤ sizeLine := by rw [sizeLine_eq]; exact Nat.le_refl _
theorem new_list {s : Shared} {avs : List AV} {vs : List Value} {Q E : Value → Shared → Prop} (S : St w K C ρ H s.heap) (o : Oks avs vs) (hz : avs.length ≤ 16777216)
    (k : ∀ a h', H a = none → St w K C ρ (H.set a (.list avs)) h' → Q (.ref a) { s with heap := h' }) : wpAny (model prog w) C.A (newList vs) Q E s := by
  obtain ⟨m, news, F, N, fo, ab⟩ := S.at_
  refine newList_N F N (fun h' F' N' => k _ h' S.noneNew (S.fresh S.noneNew F' N' fo ab ⟨vs.toArray, 0, .head _, o⟩ fun _ _ _ q => by cases q)) ?_
  rw [o.len]; exact Nat.le_trans hz sizeLine_big
theorem new_tup {s : Shared} {avs : List AV} {vs : List Value} {Q E : Value → Shared → Prop} (S : St w K C ρ H s.heap) (o : Oks avs vs) (hz : avs.length ≤ 16777216)
    (k : ∀ a h', H a = none → St w K C ρ (H.set a (.tup avs)) h' → Q (.ref a) { s with heap := h' }) : wpAny (model prog w) C.A (newTuple vs) Q E s := by
  obtain ⟨m, news, F, N, fo, ab⟩ := S.at_
  refine newTuple_N F N (fun h' F' N' => k _ h' S.noneNew (S.fresh S.noneNew F' N' fo ab ⟨vs.toArray, 0, .head _, o⟩ fun _ _ _ q => by cases q)) ?_
  rw [o.len]; exact Nat.le_trans hz sizeLine_big
theorem St.drop {a : Addr} {o : AO} (S : St w K C ρ H h) (S' : St w K C ρ (H.set a o) h') (hn : H a = none) : St w K C ρ H h' :=
  S'.less S.sep (fun b o2 e => AH.set_keep hn e) fun _ _ e => e

theorem ev_list {es : List PySem.Expr} {pos : Pos} {P : List AV → AH → Prop} {R : AV → AH → Prop} (X : EvL prog w K C ρ H pos es P)
    (r : ∀ avs H1 a, P avs H1 → H1 a = none → avs.length ≤ 16777216 ∧ R (.ref a) (H1.set a (.list avs))) : EvG prog w K C ρ H (.List es pos) R := by
  intro s Q E S k
  refine List_ (X s _ E S fun avs H1 vs h1 tk p o S1 => ?_)
  refine new_list (s := { s with heap := h1, toks := tk }) S1 o ?_ fun a h2 hn S2 => k _ _ (.ref a) h2 tk (r avs H1 a p hn).2 rfl S2
  exact (r avs H1 h1.objs.size p S1.noneNew).1
theorem ev_tup {es : List PySem.Expr} {c : Nat} {pos : Pos} {P : List AV → AH → Prop} {R : AV → AH → Prop} (X : EvL prog w K C ρ H pos es P)
    (r : ∀ avs H1 a, P avs H1 → H1 a = none → avs.length ≤ 16777216 ∧ R (.ref a) (H1.set a (.tup avs))) : EvG prog w K C ρ H (.Tuple es c pos) R := by
  intro s Q E S k
  refine Tuple_ (X s _ E S fun avs H1 vs h1 tk p o S1 => ?_)
  refine new_tup (s := { s with heap := h1, toks := tk }) S1 o ?_ fun a h2 hn S2 => k _ _ (.ref a) h2 tk (r avs H1 a p hn).2 rfl S2
  exact (r avs H1 h1.objs.size p S1.noneNew).1

/-- x in [..], x in (..): written strs -/
theorem in_any {l : PySem.Expr} {op : CmpOp} {x : Str} {r : PySem.Expr} {xs : List Str} {c : Bool} {s : Shared} {Q E : Value → Shared → Prop} (X : EvP prog w K C ρ H l (.str x))
    (Y : (∃ es pos, r = .List es pos ∧ EvLP prog w K C ρ H es (xs.map .str)) ∨ (∃ es n pos, r = .Tuple es n pos ∧ EvLP prog w K C ρ H es (xs.map .str))) (hz : xs.length ≤ 16777216)
    (e : (op = .In ∧ c = xs.any (· == x)) ∨ (op = .NotIn ∧ c = !xs.any (· == x))) (S : St w K C ρ H s.heap)
    (k : ∀ h' tk, St w K C ρ H h' → Q (.bool c) { s with heap := h', toks := tk }) :
    wpAny (model prog w) C.A (eval l C.env) (fun a s₁ => wpAny (model prog w) C.A (eval r C.env) (fun b s₂ => wpAny (model prog w) C.A (compareOp op a b) Q E s₂) E s₁) E s := by
  refine X s _ E S fun v h' tk o S' => ?_
  obtain ⟨t, rfl⟩ := o
  rcases Y with ⟨es, pos, rfl, Y⟩ | ⟨es, n, pos, rfl, Y⟩
  · refine List_ (Y.l (P := fun as h => as = xs.map .str ∧ h = H) ⟨rfl, rfl⟩ { s with heap := h', toks := tk } _ E S' ?_)
    rintro avs H1 vs h1 tk1 ⟨rfl, rfl⟩ o1 S1
    refine new_list (s := { s with heap := h1, toks := tk1 }) S1 o1 (by rw [List.length_map]; exact hz) fun a h2 hn S2 => ?_
    obtain ⟨m, news, F, N, fo, ab⟩ := S2.at_
    obtain ⟨vs2, n2, hm, o2⟩ := ab a _ AH.set_self
    have il : h2.IsList a vs2.toList.toArray := by rw [Array.toArray_toList]; exact News.isList N hm
    rcases e with ⟨rfl, rfl⟩ | ⟨rfl, rfl⟩
    · exact in_list_strs il o2.strs (k h2 tk1 (S1.drop S2 hn))
    · exact notin_list_strs il o2.strs (k h2 tk1 (S1.drop S2 hn))
  · refine Tuple_ (Y.l (P := fun as h => as = xs.map .str ∧ h = H) ⟨rfl, rfl⟩ { s with heap := h', toks := tk } _ E S' ?_)
    rintro avs H1 vs h1 tk1 ⟨rfl, rfl⟩ o1 S1
    refine new_tup (s := { s with heap := h1, toks := tk1 }) S1 o1 (by rw [List.length_map]; exact hz) fun a h2 hn S2 => ?_
    obtain ⟨m, news, F, N, fo, ab⟩ := S2.at_
    obtain ⟨vs2, n2, hm, o2⟩ := ab a _ AH.set_self
    rcases e with ⟨rfl, rfl⟩ | ⟨rfl, rfl⟩
    · exact in_tuple_strs (News.isTup N hm) o2.strs (k h2 tk1 (S1.drop S2 hn))
    · exact notin_tuple_strs (News.isTup N hm) o2.strs (k h2 tk1 (S1.drop S2 hn))
end Mine
namespace Mine
variable {prog : Program} {w : World} {K : Frag} {C : Cx} {ρ ρ' : Rho} {H H' : AH} {h h' : Heap}

theorem ev_in {l : PySem.Expr} {x : Str} {es : List PySem.Expr} {lp pos : Pos} (xs : List Str) (X : EvP prog w K C ρ H l (.str x)) (Y : EvLP prog w K C ρ H es (xs.map .str)) (hz : xs.length ≤ 16777216 := by decide) :
    EvP prog w K C ρ H (.Compare l [.In] [.List es lp] pos) (.bool (xs.any (· == x))) := fun s Q E S k =>
  wpAny_Compare1 (in_any X (.inl ⟨_, _, rfl, Y⟩) hz (.inl ⟨rfl, rfl⟩) S fun h' tk S' => k _ h' tk rfl S') rfl
theorem ev_notin {l : PySem.Expr} {x : Str} {es : List PySem.Expr} {lp pos : Pos} (xs : List Str) (X : EvP prog w K C ρ H l (.str x)) (Y : EvLP prog w K C ρ H es (xs.map .str)) (hz : xs.length ≤ 16777216 := by decide) :
    EvP prog w K C ρ H (.Compare l [.NotIn] [.List es lp] pos) (.bool (!xs.any (· == x))) := fun s Q E S k =>
  wpAny_Compare1 (in_any X (.inl ⟨_, _, rfl, Y⟩) hz (.inr ⟨rfl, rfl⟩) S fun h' tk S' => k _ h' tk rfl S') rfl
theorem ts_in {l : PySem.Expr} {x : Str} {es : List PySem.Expr} {lp pos : Pos} (xs : List Str) (X : EvP prog w K C ρ H l (.str x)) (Y : EvLP prog w K C ρ H es (xs.map .str)) (hz : xs.length ≤ 16777216 := by decide) :
    TsP prog w K C ρ H (.Compare l [.In] [.List es lp] pos) (xs.any (· == x)) := fun s Q E S k =>
  wpAny_isTrue_Compare1 (in_any X (.inl ⟨_, _, rfl, Y⟩) hz (.inl ⟨rfl, rfl⟩) S fun h' tk S' => wpAny_truthy_bool (k h' tk S')) rfl
theorem ts_notin {l : PySem.Expr} {x : Str} {es : List PySem.Expr} {lp pos : Pos} (xs : List Str) (X : EvP prog w K C ρ H l (.str x)) (Y : EvLP prog w K C ρ H es (xs.map .str)) (hz : xs.length ≤ 16777216 := by decide) :
    TsP prog w K C ρ H (.Compare l [.NotIn] [.List es lp] pos) (!xs.any (· == x)) := fun s Q E S k =>
  wpAny_isTrue_Compare1 (in_any X (.inl ⟨_, _, rfl, Y⟩) hz (.inr ⟨rfl, rfl⟩) S fun h' tk S' => wpAny_truthy_bool (k h' tk S')) rfl
theorem ts_inT {l : PySem.Expr} {x : Str} {es : List PySem.Expr} {n : Nat} {lp pos : Pos} (xs : List Str) (X : EvP prog w K C ρ H l (.str x)) (Y : EvLP prog w K C ρ H es (xs.map .str)) (hz : xs.length ≤ 16777216 := by decide) :
    TsP prog w K C ρ H (.Compare l [.In] [.Tuple es n lp] pos) (xs.any (· == x)) := fun s Q E S k =>
  wpAny_isTrue_Compare1 (in_any X (.inr ⟨_, _, _, rfl, Y⟩) hz (.inl ⟨rfl, rfl⟩) S fun h' tk S' => wpAny_truthy_bool (k h' tk S')) rfl

/-- tests -/
theorem ts_not {x : PySem.Expr} {pos : Pos} {b : Bool} (X : TsP prog w K C ρ H x b) : TsP prog w K C ρ H (.UnaryOp .Not x pos) (!b) := fun s Q E S k => isTrue_not (X s _ E S fun h' tk S' => k h' tk S')
theorem ts_and0 {pos : Pos} : TsP prog w K C ρ H (.BoolOp .And [] pos) true := fun s Q E S k => isTrue_and_nil (k s.heap s.toks S)
theorem ts_or0 {pos : Pos} : TsP prog w K C ρ H (.BoolOp .Or [] pos) false := fun s Q E S k => isTrue_or_nil (k s.heap s.toks S)
theorem isTrue_bool_whole {op : BoolOp} {xs : List PySem.Expr} {pos : Pos} {a b : Sem Value} {env : Env} : PySem.isTrue (.BoolOp op xs pos) env a = PySem.isTrue (.BoolOp op xs pos) env b := by
  cases op <;> cases xs <;> rfl
theorem ts_and {x : PySem.Expr} {xs : List PySem.Expr} {pos : Pos} {b c : Bool} (X : TsP prog w K C ρ H x b) (Y : b = true → TsP prog w K C ρ H (.BoolOp .And xs pos) c) : TsP prog w K C ρ H (.BoolOp .And (x :: xs) pos) (b && c) := by
  intro s Q E S k
  refine isTrue_and (X s _ E S fun h' tk S' => ?_)
  cases b with
  | true => rw [if_pos rfl, isTrue_bool_whole (b := eval (.BoolOp .And xs pos) C.env)]; exact Y rfl _ Q E S' k
  | false => rw [if_neg Bool.false_ne_true]; exact k h' tk S'
theorem ts_or {x : PySem.Expr} {xs : List PySem.Expr} {pos : Pos} {b c : Bool} (X : TsP prog w K C ρ H x b) (Y : b = false → TsP prog w K C ρ H (.BoolOp .Or xs pos) c) : TsP prog w K C ρ H (.BoolOp .Or (x :: xs) pos) (b || c) := by
  intro s Q E S k
  refine isTrue_or (X s _ E S fun h' tk S' => ?_)
  cases b with
  | true => rw [if_pos rfl]; exact k h' tk S'
  | false => rw [if_neg Bool.false_ne_true, isTrue_bool_whole (b := eval (.BoolOp .Or xs pos) C.env)]; exact Y rfl _ Q E S' k
/-- a test of a plain expression that gives a bool -/
theorem ts_plain {e : PySem.Expr} {b : Bool} (X : EvP prog w K C ρ H e (.bool b))
    (he : PySem.isTrue e C.env (eval e C.env) = (do let v ← eval e C.env; standAt (Expr.pos e); holding [v] (truthy v)) := by rfl) : TsP prog w K C ρ H e b :=
  fun s Q E S k => isTrue_plain (X s _ E S fun v h' tk o S' => by cases o; exact wpAny_truthy_bool (k h' tk S')) he
theorem ts_call {f : PySem.Expr} {as : List PySem.Expr} {kw : List Keyword} {pos : Pos} {b : Bool} (X : EvP prog w K C ρ H (.Call f as kw pos) (.bool b)) : TsP prog w K C ρ H (.Call f as kw pos) b := ts_plain X
theorem ts_name {x : Str} {pos : Pos} {b : Bool} (X : EvP prog w K C ρ H (.Name x pos) (.bool b)) : TsP prog w K C ρ H (.Name x pos) b := ts_plain X
theorem ts_attr {e : PySem.Expr} {x : Str} {pos : Pos} {b : Bool} (X : EvP prog w K C ρ H (.Attribute e x pos) (.bool b)) : TsP prog w K C ρ H (.Attribute e x pos) b := ts_plain X

/-- values of and, or, not -/
theorem ev_bo1 {e : PySem.Expr} {op : BoolOp} {pos : Pos} {a : AV} (X : EvP prog w K C ρ H e a) : EvP prog w K C ρ H (.BoolOp op [e] pos) a := fun s Q E S k => BoolOp_one (X s Q E S k)
theorem ev_and {x y : PySem.Expr} {xs : List PySem.Expr} {pos : Pos} {b c : Bool} (X : EvP prog w K C ρ H x (.bool b)) (Y : b = true → EvP prog w K C ρ H (.BoolOp .And (y :: xs) pos) (.bool c)) : EvP prog w K C ρ H (.BoolOp .And (x :: y :: xs) pos) (.bool (b && c)) := by
  intro s Q E S k
  refine BoolOp_and (X s _ E S fun v h' tk o S' => ?_)
  cases o
  refine wpAny_truthy_bool ?_
  cases b with
  | true => rw [if_pos rfl]; exact Y rfl _ Q E S' k
  | false => rw [if_neg Bool.false_ne_true]; exact k _ h' tk rfl S'
theorem ev_or {x y : PySem.Expr} {xs : List PySem.Expr} {pos : Pos} {b c : Bool} (X : EvP prog w K C ρ H x (.bool b)) (Y : b = false → EvP prog w K C ρ H (.BoolOp .Or (y :: xs) pos) (.bool c)) : EvP prog w K C ρ H (.BoolOp .Or (x :: y :: xs) pos) (.bool (b || c)) := by
  intro s Q E S k
  refine BoolOp_or (X s _ E S fun v h' tk o S' => ?_)
  cases o
  refine wpAny_truthy_bool ?_
  cases b with
  | true => rw [if_pos rfl]; exact k _ h' tk rfl S'
  | false => rw [if_neg Bool.false_ne_true]; exact Y rfl _ Q E S' k
theorem ev_not {x : PySem.Expr} {pos : Pos} {b : Bool} (X : EvP prog w K C ρ H x (.bool b)) : EvP prog w K C ρ H (.UnaryOp .Not x pos) (.bool (!b)) :=
  fun s Q E S k => UnaryOp_ (X s _ E S fun v h' tk o S' => by cases o; exact not_of (wpAny_truthy_bool (k _ h' tk rfl S')))
theorem ev_neg {x : PySem.Expr} {pos : Pos} {i : Int} (X : EvP prog w K C ρ H x (.int i)) : EvP prog w K C ρ H (.UnaryOp .USub x pos) (.int (-i)) :=
  fun s Q E S k => UnaryOp_ (X s _ E S fun v h' tk o S' => by obtain ⟨t, rfl⟩ := o; exact neg_int (k _ h' _ ⟨_, rfl⟩ S'))
theorem ev_ife {t x y : PySem.Expr} {pos : Pos} {b : Bool} {a : AV} (T : TsP prog w K C ρ H t b) (X : b = true → EvP prog w K C ρ H x a) (Y : b = false → EvP prog w K C ρ H y a) : EvP prog w K C ρ H (.IfExp t x y pos) a := by
  intro s Q E S k
  refine IfExp_ (T s _ E S fun h' tk S' => ?_)
  cases b with
  | true => rw [if_pos rfl]; exact X rfl _ Q E S' k
  | false => rw [if_neg Bool.false_ne_true]; exact Y rfl _ Q E S' k
theorem ev_ifeG {t x y : PySem.Expr} {pos : Pos} {b : Bool} {P : AV → AH → Prop} (T : TsP prog w K C ρ H t b) (X : b = true → EvG prog w K C ρ H x P) (Y : b = false → EvG prog w K C ρ H y P) : EvG prog w K C ρ H (.IfExp t x y pos) P := by
  intro s Q E S k
  refine IfExp_ (T s _ E S fun h' tk S' => ?_)
  cases b with
  | true => rw [if_pos rfl]; exact X rfl _ Q E S' k
  | false => rw [if_neg Bool.false_ne_true]; exact Y rfl _ Q E S' k

/-- ints' arithmetic, texts glued -/
def binAV : Operator → AV → AV → Option AV
  | .Add, .int a, .int b => some (.int (a + b))
  | .Sub, .int a, .int b => some (.int (a - b))
  | .Mod, .int a, .int b => if b = 0 then none else some (.int (a.fmod b))
  | .Mult, .int a, .int b => if Builtin.Int.intBits b ≤ 64 then some (.int (a * b)) else none
  | .Add, .str a, .str b => if a.length + b.length ≤ 16777216 then some (.str (a ++ b)) else none
  | _, _, _ => none
theorem bin_ok {op : Operator} {a b c : AV} {va vb : Value} {A : Around} {s : Shared} {Q E : Value → Shared → Prop} (e : binAV op a b = some c) (oa : a.ok va) (ob : b.ok vb) (k : ∀ v tk, c.ok v → Q v { s with toks := tk }) :
    wpAny (model prog w) A (binaryOp op va vb) Q E s := by
  unfold binAV at e
  split at e
  · obtain ⟨t, rfl⟩ := oa; obtain ⟨u, rfl⟩ := ob; cases e; exact add_int (k _ _ ⟨_, rfl⟩)
  · obtain ⟨t, rfl⟩ := oa; obtain ⟨u, rfl⟩ := ob; cases e; exact sub_int (k _ _ ⟨_, rfl⟩)
  · obtain ⟨t, rfl⟩ := oa; obtain ⟨u, rfl⟩ := ob
    split at e
    · cases e
    · rename_i hb; cases e; exact mod_int' hb (k _ _ ⟨_, rfl⟩)
  · obtain ⟨t, rfl⟩ := oa; obtain ⟨u, rfl⟩ := ob
    split at e
    · rename_i hb; cases e; exact mul_int (k _ _ ⟨_, rfl⟩) (IntMulOk.of_right hb)
    · cases e
  · obtain ⟨t, rfl⟩ := oa; obtain ⟨u, rfl⟩ := ob
    split at e
    · rename_i hb; cases e; exact add_str (fun t' tk => k _ tk ⟨t', rfl⟩) (Nat.le_trans hb sizeLine_big)
    · cases e
  · cases e
theorem ev_bin {l r : PySem.Expr} {op : Operator} {pos : Pos} {a b c : AV} (X : EvP prog w K C ρ H l a) (Y : EvP prog w K C ρ H r b) (e : binAV op a b = some c) : EvP prog w K C ρ H (.BinOp l op r pos) c := by
  intro s Q E S k
  refine wpAny_BinOp (X s _ E S fun v h' tk o S' => ?_)
  exact Y { s with heap := h', toks := tk } _ E S' fun v2 h2 tk2 o2 S2 => bin_ok e o o2 fun v tk3 o3 => k v h2 tk3 o3 S2
theorem ev_binG {l r : PySem.Expr} {op : Operator} {pos : Pos} {P1 P : AV → AH → Prop} (X : EvG prog w K C ρ H l P1) (Y : ∀ a H1, P1 a H1 → EvG prog w K C ρ H1 r (fun b H2 => ∃ c, binAV op a b = some c ∧ P c H2)) : EvG prog w K C ρ H (.BinOp l op r pos) P := by
  intro s Q E S k
  refine wpAny_BinOp (X s _ E S fun a H1 v h' tk p o S' => ?_)
  refine Y a H1 p { s with heap := h', toks := tk } _ E S' fun b H2 v2 h2 tk2 p2 o2 S2 => ?_
  obtain ⟨c, e, pc⟩ := p2
  exact bin_ok e o o2 fun v tk3 o3 => k c H2 v h2 tk3 pc o3 S2

theorem St.isList {a : Addr} {xs : List AV} (S : St w K C ρ H h) (e : H a = some (.list xs)) : ∃ vs, h.IsList a vs ∧ Oks xs vs.toList := by
  obtain ⟨m, news, F, N, fo, ab⟩ := S.at_
  obtain ⟨vs, n, hm, o⟩ := ab a _ e
  exact ⟨vs, News.isList N hm, o⟩
theorem St.isTup {a : Addr} {xs : List AV} (S : St w K C ρ H h) (e : H a = some (.tup xs)) : ∃ vs, IsTup h a vs ∧ Oks xs vs.toList := by
  obtain ⟨m, news, F, N, fo, ab⟩ := S.at_
  obtain ⟨vs, n, hm, o⟩ := ab a _ e
  exact ⟨vs, News.isTup N hm, o⟩

theorem seqIndex_nat {k : Int} {n : Nat} (h0 : 0 ≤ k) (h1 : k.toNat < n) : seqIndex? k n = some k.toNat := by
  unfold seqIndex?
  have h2 : ¬ k < 0 := by omega
  have h3 : k < (n : Int) := by omega
  simp only [h2, if_false]
  first | (rw [if_neg (by omega)]) | (simp; omega) | skip
theorem sub_ok {a : Addr} {k : Int} {u : Tok} {xs : List AV} {r : AV} {value slice : PySem.Expr} {s : Shared} {Q E : Value → Shared → Prop} (S : St w K C ρ H s.heap) (e : H a = some (.list xs) ∨ H a = some (.tup xs)) (h0 : 0 ≤ k) (h1 : k < 2 ^ 63)
    (g : xs[k.toNat]? = some r) (hs : ∀ o i, subscripted slice false o i = operate [o, i] (getItem o i)) (q : ∀ v, r.ok v → Q v s) : wpAny (model prog w) C.A (subscriptTail value slice (.ref a) (.int k u)) Q E s := by
  rcases e with e | e
  · obtain ⟨vs, il, o⟩ := S.isList e
    obtain ⟨v, hv, ov⟩ := o.get g
    exact tail_any il.typeIs PySem.F.slot_list_getitem.lookup (wpAny_getItem_list il h0 h1 (by simpa using hv) (q v ov)) (hs _ _)
  · obtain ⟨vs, il, o⟩ := S.isTup e
    obtain ⟨v, hv, ov⟩ := o.get g
    have hl := (List.getElem?_eq_some_iff.mp hv).1
    exact item_tupleT (l := vs.toList) (by rw [Array.toArray_toList]; exact il) (by omega) h1 (seqIndex_nat h0 hl) hv (q v ov) (hs _ _)
theorem ev_sub {value slice : PySem.Expr} {pos : Pos} {a : Addr} {k : Int} {xs : List AV} {r : AV} (X : EvP prog w K C ρ H value (.ref a)) (Y : EvP prog w K C ρ H slice (.int k)) (e : H a = some (.list xs) ∨ H a = some (.tup xs))
    (g : xs[k.toNat]? = some r) (h0 : 0 ≤ k) (h1 : k < 2 ^ 63) (hs : ∀ o i, subscripted slice false o i = operate [o, i] (getItem o i) := by intro _ _; rfl) : EvP prog w K C ρ H (.Subscript value slice pos) r := by
  intro s Q E S kk
  refine Subscript_ (X s _ E S fun v h' tk o S' => ?_)
  cases o
  refine Y { s with heap := h', toks := tk } _ E S' fun v2 h2 tk2 o2 S2 => ?_
  obtain ⟨u, rfl⟩ := o2
  exact sub_ok (s := { s with heap := h2, toks := tk2 }) S2 e h0 h1 g hs fun v ov => kk v h2 tk2 ov S2
theorem ev_subG {value slice : PySem.Expr} {pos : Pos} {P1 P : AV → AH → Prop} (X : EvG prog w K C ρ H value P1)
    (Y : ∀ av H1, P1 av H1 → ∃ a, av = .ref a ∧ EvG prog w K C ρ H1 slice (fun iv H2 => ∃ k xs r, iv = .int k ∧ (H2 a = some (.list xs) ∨ H2 a = some (.tup xs)) ∧ 0 ≤ k ∧ k < 2 ^ 63 ∧ xs[k.toNat]? = some r ∧ P r H2))
    (hs : ∀ o i, subscripted slice false o i = operate [o, i] (getItem o i) := by intro _ _; rfl) : EvG prog w K C ρ H (.Subscript value slice pos) P := by
  intro s Q E S kk
  refine Subscript_ (X s _ E S fun av H1 v h' tk p o S' => ?_)
  obtain ⟨a, rfl, Y⟩ := Y av H1 p
  cases o
  refine Y { s with heap := h', toks := tk } _ E S' fun iv H2 v2 h2 tk2 p2 o2 S2 => ?_
  obtain ⟨k, xs, r, rfl, e, h0, h1, g, pr⟩ := p2
  obtain ⟨u, rfl⟩ := o2
  exact sub_ok (s := { s with heap := h2, toks := tk2 }) S2 e h0 h1 g hs fun v ov => kk r H2 v h2 tk2 pr ov S2
end Mine
namespace Mine
variable {prog : Program} {w : World} {K : Frag} {C : Cx} {ρ ρ' : Rho} {H H' : AH} {h h' : Heap}

structure FI where
  f : Addr
  name : Str
  qual : Str
  params : Arguments
  body : List Stmt
  scope : Scope
  dV : Value
  kV : Value
  doc : Value
  pm : Value
  an : Option Addr
  cdv : Value
  ct : Value
abbrev FI.fd (x : FI) : FuncData := fnOf x.name x.qual x.params x.body x.scope x.dV x.kV x.doc x.pm x.an x.cdv x.ct
/-- the def stands as it is written -/
structure FI.Ok (K : Frag) (x : FI) : Prop where
  look : ∃ oc od osl, K.lookup x.f = some ⟨oc, od, .func x.fd, osl⟩
  code : codeIn K x.cdv x.qual = true
  names : okNames x.scope.names = true
  kind : x.scope.kind = .function
  co : x.scope.isCoroutine = false
  gen : x.scope.isGenerator = false
  cell : (x.scope.names.all fun y => decide (y.2 ≠ .cell)) = true
abbrev FI.cx (x : FI) (A : Around) (h₀ : Heap) (L : Addr) (r : Nat) : Cx := ⟨A, h₀, L, x.qual, x.scope, x.f, x.cdv, r⟩

/-- how the arguments are bound: the first n names -/
def Binds (K : Frag) (x : FI) (n : Nat) (args full : List AV) : Prop :=
  full.length = n ∧ ((x.scope.names.take n).all fun y => decide (y.2 = .local)) = true ∧ (x.scope.names.take n).length = n ∧
  ∀ (s : Shared) (vs : List Value), K.In s.heap → Oks args vs → ∃ vs', Oks full vs' ∧ BindsTo s x.fd ⟨vs, []⟩ (((x.scope.names.take n).map (·.1)).zip vs')

structure AtCx (C : Cx) (A : Around) : Prop where
  fr : A.frames = C.A.frames
  hh : A.handled = none
  d : A.depth ≤ C.A.depth + 1
  u : A.units ≤ C.A.units + 4
theorem AtCx.self (o : C.Ok w K) : AtCx C C.A := ⟨rfl, o.hh, Nat.le_succ _, Nat.le_add_right _ _⟩

/-- what a call of the def at f does: from these arguments and this heap to an answer and a heap -/
def FnZ (Z : Heap → Prop) (prog : Program) (w : World) (K : Frag) (f : Addr) (need : Nat) (args : List AV) (H : AH) (P : AV → AH → Prop) : Prop :=
  ∀ (C : Cx) (ρ : Rho) (A : Around) (s : Shared) (R : Result → Shared → Prop) (vs : List Value), Z C.h₀ → AtCx C A → need + 2 ≤ C.r → St w K C ρ H s.heap → Oks args vs →
    (∀ av H' v h' tk, P av H' → av.ok v → St w K C ρ H' h' → R (.ok (.ret v)) { s with heap := h', toks := tk }) → codeAny (model prog w) A (.call (.ref f) ⟨vs, []⟩) R s

abbrev Fn := FnZ fun _ => True

def FnR (P : AV → AH → Prop) (f : AF) (H : AH) : Prop := match f with
  | .ret a => P a H
  | .next => P .none H
  | _ => False

theorem lookup_mem : ∀ {l : List (Str × Value)} {x : Str} {v : Value}, (l.map (·.1)).Nodup → (x, v) ∈ l → l.lookup x = some v
  | (y, u) :: r, x, v, nd, hm => by
    simp only [List.map_cons, List.nodup_cons] at nd
    rw [List.lookup_cons]
    rcases List.mem_cons.mp hm with e | hm2
    · cases e; simp
    · have : (x == y) = false := by
        rw [beq_eq_false_iff_ne]; intro q; subst q; exact nd.1 (List.mem_map.mpr ⟨(x, v), hm2, rfl⟩)
      rw [this]; exact lookup_mem nd.2 hm2
theorem nodup_rev {α : Type} {l : List α} (h : l.Nodup) : l.reverse.Nodup := by
  unfold List.Nodup at *
  rw [List.pairwise_reverse]
  exact h.imp fun h => Ne.symm h
theorem zip_fst : ∀ {xs : List Str} {vs : List Value}, xs.length = vs.length → (xs.zip vs).map (·.1) = xs
  | [], [], _ => rfl
  | x :: xs, v :: vs, e => by simp only [List.zip_cons_cons, List.map_cons]; rw [zip_fst (by simpa using e)]

theorem fn_defZ (Z : Heap → Prop) (mono : ∀ a b, Heap.StaysIn a b → Z a → Z b) (x : FI) (n : Nat) {need : Nat} {args full : List AV} {P : AV → AH → Prop} (o : x.Ok K) (b : Binds K x n args full)
    (body : ∀ A h₀ L r, Z h₀ → need ≤ r → Exs prog w K (x.cx A h₀ L r) (fun i => full[i]?) H x.body (fun f _ H' => FnR P f H')) : FnZ Z prog w K x.f need args H P := by
  intro C ρ A s R vs hz ha hr S oa k
  obtain ⟨m, news, F, N, fo, ab⟩ := S.at_
  obtain ⟨A₀, base, outer, B, hfr⟩ := S.ok.ctx
  obtain ⟨p, loose, mean, mg, mb, T⟩ := S.ok.top
  obtain ⟨oc, od, osl, hl⟩ := o.look
  obtain ⟨bl, bk, bt, bb⟩ := b
  obtain ⟨vs', ov, hb⟩ := bb s vs (S.ok.kin.keeps F.keep) oa
  have nd : (x.scope.names.map (·.1)).Nodup := by have := o.names; unfold okNames at this; exact of_decide_eq_true (Bool.and_eq_true_iff.mp this).1
  have ndt : ((x.scope.names.take n).map (·.1)).Nodup := by rw [List.map_take]; exact nd.sublist (List.take_sublist _ _)
  have hlen : ((x.scope.names.take n).map (·.1)).length = vs'.length := by rw [List.length_map, bt, ov.len, bl]
  have hbn := zip_fst hlen
  have hu := S.ok.units
  have hd := S.ok.room
  refine callX_plain (cl := []) B F N T.nolimit (ha.fr.trans hfr) rfl S.ok.kind ((S.ok.kin.keeps F.keep) _ _ hl) rfl (codeRec_of (S.ok.kin.keeps F.keep) o.code) (by have := ha.d; omega) hb ?_ ?_ ?_ o.co o.gen o.kind
  · intro y hy
    have hy1 : y.1 ∈ (x.scope.names.take n).map (·.1) := by rw [← hbn]; exact List.mem_map.mpr ⟨y, hy, rfl⟩
    obtain ⟨q, hq, e⟩ := List.mem_map.mp hy1
    have hk := of_decide_eq_true (List.all_eq_true.mp bk q hq)
    obtain ⟨i, hi⟩ := List.mem_iff_getElem?.mp (List.mem_of_mem_take hq)
    rw [← e]
    exact lookup_of_names nd (by rw [hi, ← hk])
  · intro g L' h₁ FG F' N' B' st _
    have X' := S.ok.kin.keeps st
    have T' := T.keeps st
    have Sin : St w K (x.cx (A.deeper (envOf x.qual x.scope L' x.f x.cdv)) g L' (C.r - 2)) (fun i => full[i]?) H h₁ := by
      refine ⟨⟨⟨A, base, C.env :: outer, B', ?_⟩, X', ⟨_, _, _, _, _, T'⟩, o.kind, o.names, ha.hh, ?_, ?_⟩, S.sep, _, news, F', N', ?_, ab⟩
      · show Option.map _ A.frames = _
        rw [ha.fr, hfr]; rfl
      · show A.depth + 1 + (C.r - 2) < recursionLimit
        have := ha.d; omega
      · show A.units + 3 + 8 * (C.r - 2) + 8 < cLine
        have := ha.u; omega
      · intro i y av e1 e2
        obtain ⟨v, hv, ok⟩ := ov.get e2
        refine ⟨v, ?_, ok⟩
        have hi : i < n := by rw [← bl]; exact (List.getElem?_eq_some_iff.mp e2).1
        refine lookup_mem ?_ (List.mem_reverse.mpr ?_)
        · rw [List.map_reverse, hbn]; exact nodup_rev ndt
        · refine List.mem_iff_getElem?.mpr ⟨i, ?_⟩
          have h1 : ((x.scope.names.take n).map (·.1))[i]? = some y := by
            rw [List.getElem?_map, List.getElem?_take, if_pos hi]; show Option.map _ (x.scope.names[i]?) = _; rw [show x.scope.names[i]? = some (y, .local) from e1]; rfl
          rw [List.getElem?_zip_eq_some]
          exact ⟨h1, hv⟩
    refine body (A.deeper (envOf x.qual x.scope L' x.f x.cdv)) g L' (C.r - 2) (mono _ _ st hz) (by omega) { s with heap := h₁, toks := s.toks + _ } _ _ Sin ?_
    intro af ρ' H' f h' tk r of S'
    obtain ⟨m', news', F2, N2, fo2, ab2⟩ := S'.at_
    have fin : ∀ av v, P av H' → av.ok v → LeaveK C.h₀ C.L m g R v { s with heap := h', toks := tk } := fun av v pv okv =>
      leaveK_ F2 N2 fun F3 N3 => k av H' v h' tk pv okv ⟨S.ok, S'.sep, m, news', F3, N3, fo, ab2⟩
    cases af with
    | ret a => obtain ⟨v, rfl, okv⟩ := of; exact fin a v r okv
    | next => cases of; exact fin .none .none r rfl
    | brk => exact r.elim
    | cont => exact r.elim
  · intro y hy; exact of_decide_eq_true (List.all_eq_true.mp o.cell y hy)

theorem fn_def (x : FI) (n : Nat) {need : Nat} {args full : List AV} {P : AV → AH → Prop} (o : x.Ok K) (b : Binds K x n args full)
    (body : ∀ A h₀ L r, need ≤ r → Exs prog w K (x.cx A h₀ L r) (fun i => full[i]?) H x.body (fun f _ H' => FnR P f H')) : Fn prog w K x.f need args H P :=
  fn_defZ _ (fun _ _ _ _ => trivial) x n o b fun A h₀ L r _ hr => body A h₀ L r hr

theorem name_of {x : Str} {pos : Pos} {v : Value} {s : Shared} {Q E : Value → Shared → Prop} (i : Nat) (n : C.scope.names[i]? = some (x, .globalImplicit)) (g : nsIn K mainGlobals x = some (some v)) (S : St w K C ρ H s.heap) (k : Q v s) :
    wpAny (model prog w) C.A (eval (.Name x pos) C.env) Q E s := by
  obtain ⟨m, news, F, N, fo, ab⟩ := S.at_
  obtain ⟨p, loose, mean, mg, mb, T⟩ := S.ok.top
  exact nameX_K F S.ok.kin (topRead_of T) g k S.ok.kind (lookup_of_names S.ok.nd n) (S.ok.dbg n)
theorem name_boot {x : Str} {pos : Pos} {v : Value} {s : Shared} {Q E : Value → Shared → Prop} (i : Nat) (n : C.scope.names[i]? = some (x, .globalImplicit)) (g : nsIn K mainGlobals x = some none) (b : bootBuiltins x = some v) (nn : x ≠ "__name__") (S : St w K C ρ H s.heap) (k : Q v s) :
    wpAny (model prog w) C.A (eval (.Name x pos) C.env) Q E s := by
  obtain ⟨m, news, F, N, fo, ab⟩ := S.at_
  obtain ⟨p, loose, mean, mg, mb, T⟩ := S.ok.top
  exact nameX_B F S.ok.kin (topRead_of T) g b nn k S.ok.kind (lookup_of_names S.ok.nd n) (S.ok.dbg n)

theorem St.kin (S : St w K C ρ H h) : K.In h := by
  obtain ⟨m, news, F, N, fo, ab⟩ := S.at_
  exact S.ok.kin.keeps F.keep

/-- the call of a def of the text, by name -/
theorem ev_callZ {Z : Heap → Prop} {x : Str} {xp pos : Pos} {e : PySem.Expr} {es : List PySem.Expr} {f : Addr} {need : Nat} {P1 : List AV → AH → Prop} {P : AV → AH → Prop} (i : Nat) (n : C.scope.names[i]? = some (x, .globalImplicit))
    (g : nsIn K mainGlobals x = some (some (.ref f)) ∧ keepIn K (.ref f) = true) (X : EvL prog w K C ρ H pos (e :: es) P1) (Y : ∀ avs H1, P1 avs H1 → FnZ Z prog w K f need avs H1 P) (hz : Z C.h₀) (hr : need + 2 ≤ C.r)
    (hpl : ((backTo pos (starEach es C.env)).any (·.1)) = false := by rfl) (hst : starEach (e :: es) C.env = (false, eval e C.env) :: starEach es C.env := by rfl) : EvG prog w K C ρ H (.Call (.Name x xp) (e :: es) [] pos) P := by
  intro s Q E S k
  refine Call_ (name_of i n g.1 S ?_) rfl
  refine callWith_K S.ok.kin g.2 (X s _ E S fun avs H1 vs h1 tk1 p1 o1 S1 => ⟨S1.kin, ?_⟩) hst hpl
  exact wpAny_call (Y avs H1 p1 C ρ C.A { s with heap := h1, toks := tk1 } _ vs hz (AtCx.self S.ok) hr S1 o1 fun av H2 v h2 tk2 p2 o2 S2 => k av H2 v h2 tk2 p2 o2 S2)
theorem ev_callG {x : Str} {xp pos : Pos} {e : PySem.Expr} {es : List PySem.Expr} {f : Addr} {need : Nat} {P1 : List AV → AH → Prop} {P : AV → AH → Prop} (i : Nat) (n : C.scope.names[i]? = some (x, .globalImplicit))
    (g : nsIn K mainGlobals x = some (some (.ref f)) ∧ keepIn K (.ref f) = true) (X : EvL prog w K C ρ H pos (e :: es) P1) (Y : ∀ avs H1, P1 avs H1 → Fn prog w K f need avs H1 P) (hr : need + 2 ≤ C.r)
    (hpl : ((backTo pos (starEach es C.env)).any (·.1)) = false := by rfl) (hst : starEach (e :: es) C.env = (false, eval e C.env) :: starEach es C.env := by rfl) : EvG prog w K C ρ H (.Call (.Name x xp) (e :: es) [] pos) P :=
  ev_callZ i n g X Y trivial hr hpl hst
/-- .. that changes nothing -/
theorem ev_call {x : Str} {xp pos : Pos} {e : PySem.Expr} {es : List PySem.Expr} {f : Addr} {need : Nat} {avs : List AV} {av : AV} (i : Nat) (n : C.scope.names[i]? = some (x, .globalImplicit))
    (g : nsIn K mainGlobals x = some (some (.ref f)) ∧ keepIn K (.ref f) = true) (X : EvLP prog w K C ρ H (e :: es) avs) (Y : Fn prog w K f need avs H (fun a H' => a = av ∧ H' = H)) (hr : need + 2 ≤ C.r)
    (hpl : ((backTo pos (starEach es C.env)).any (·.1)) = false := by rfl) (hst : starEach (e :: es) C.env = (false, eval e C.env) :: starEach es C.env := by rfl) : EvP prog w K C ρ H (.Call (.Name x xp) (e :: es) [] pos) av := by
  intro s Q E S k
  refine ev_callG (P1 := fun l h => l = avs ∧ h = H) (P := fun a h => a = av ∧ h = H) i n g (X.l ⟨rfl, rfl⟩) (fun l h1 ⟨e1, e2⟩ => by subst e1 e2; exact Y) hr hpl hst s Q E S ?_
  rintro a H' v h' tk ⟨rfl, rfl⟩ o S'
  exact k v h' tk o S'

/-- len of a list -/
theorem ev_len {xp pos : Pos} {e : PySem.Expr} {a : Addr} {xs : List AV} (i : Nat) (n : C.scope.names[i]? = some (("len" : Str), NameKind.globalImplicit)) (g : nsIn K mainGlobals "len" = some none ∧ bootBuiltins "len" = some (.builtin "len"))
    (X : EvP prog w K C ρ H e (.ref a)) (l : H a = some (.list xs)) (hz : xs.length < 2 ^ 62) (hst : starEach [e] C.env = [(false, eval e C.env)] := by rfl) : EvP prog w K C ρ H (.Call (.Name "len" xp) [e] [] pos) (.int xs.length) := by
  intro s Q E S k
  refine Call_ (name_boot i n g.1 g.2 (by decide) S ?_) rfl
  refine PyProof.Rows.callWith_builtin1 ((EvLP.cons X hst .nil).l (P := fun l h => l = [.ref a] ∧ h = H) ⟨rfl, rfl⟩ s _ E S ?_) hst rfl
  rintro avs H1 vs h1 tk1 ⟨rfl, rfl⟩ o1 S1
  cases o1 with | cons oa ob =>
  cases ob; cases oa
  obtain ⟨vs, il, ov⟩ := S1.isList l
  have hs : vs.size = xs.length := by rw [← ov.len]; simp
  refine PySem.Calls.call_len_list (s := { s with heap := h1, toks := tk1 }) il (by rw [hs]; omega) ?_
  rw [hs]; exact k _ h1 _ ⟨_, rfl⟩ S1
end Mine
namespace Mine
variable {prog : Program} {w : World} {K : Frag} {C : Cx} {ρ ρ' : Rho} {H H' : AH} {h h' : Heap}

def Rawish (x : Option AO) : Prop := x = none ∨ ∃ o, x = some (.raw o)
/-- H' is H but at iterators' own places, free in H0 -/
def Loc (H0 H H' : AH) : Prop := ∀ b, H' b = H b ∨ (H0 b = none ∧ Rawish (H b) ∧ Rawish (H' b))
def KR (H H' : AH) : Prop := ∀ b o, H b = some (.raw o) → H' b = some (.raw o)
theorem Loc.fact {H0 : AH} (l : Loc H0 H H') {b : Addr} {o : AO} (e : H b = some o) (n : ∀ r, o ≠ .raw r) : H' b = some o := by
  rcases l b with q | ⟨_, q, _⟩
  · exact q.trans e
  · rcases q with q | ⟨r, q⟩
    · rw [e] at q; cases q
    · rw [e] at q; cases q; exact absurd rfl (n r)
theorem Loc.old {H0 : AH} (l : Loc H0 H H') {b : Addr} {o o0 : AO} (e : H b = some o) (n : H0 b = some o0) : H' b = some o := by
  rcases l b with q | ⟨q, _⟩
  · exact q.trans e
  · rw [n] at q; cases q

def AH.anew (H : AH) (fp : List Addr) (h : Heap) : AH := fun b => if b ∈ fp then (h.get? b).map .raw else H b
theorem St.anew (S : St w K C ρ H h) {fp wr : List Addr} (hr : ∀ b ∈ fp, ∃ o, H b = some (.raw o)) (sub : ∀ b ∈ wr, b ∈ fp) (kept : ∀ b o, b ∉ wr → h.get? b = some o → h'.get? b = some o) (live : ∀ b ∈ fp, ∃ o, h'.get? b = some o) : St w K C ρ (H.anew fp h') h' := by
  obtain ⟨m, news, F, N, fo, ab⟩ := S.at_
  have at_ : ∀ b ∈ fp, b ≠ C.L ∧ C.h₀.get? b = none := fun b hb => by
    obtain ⟨o, e⟩ := hr b hb
    obtain ⟨_, _, r⟩ := S.live e; exact r
  have F' : Fr C.h₀ C.L h' m := by
    obtain ⟨oL, es, ep, hL, r⟩ := F.ns
    refine ⟨⟨oL, es, ep, kept _ _ (fun q => (at_ _ (sub _ q)).1 rfl) hL, r⟩, fun b o e => kept b o (fun q => ?_) (F.keep b o e), F.above⟩
    rw [(at_ _ (sub _ q)).2] at e; cases e
  refine ⟨S.ok, fun a Cc d fs e => ?_, m, (fp.filterMap fun b => (h'.get? b).map fun o => (b, o)) ++ news.filter (fun p => decide (p.1 ∉ wr)), F', ?_, fo, ?_⟩
  · unfold AH.anew at e ⊢
    by_cases hb : a ∈ fp
    · rw [if_pos hb] at e; cases q : h'.get? a with
      | none => rw [q] at e; cases e
      | some o => rw [q] at e; cases e
    · rw [if_neg hb] at e
      have hd := S.sep a Cc d fs e
      rw [if_neg]; exact hd
      intro q; obtain ⟨o, eo⟩ := hr d q; rw [hd] at eo; cases eo
  · intro p hp
    rcases List.mem_append.mp hp with hp | hp
    · obtain ⟨b, hb, e⟩ := List.mem_filterMap.mp hp
      cases q : h'.get? b with
      | none => rw [q] at e; cases e
      | some o => rw [q] at e; cases e; exact ⟨q, at_ b hb⟩
    · obtain ⟨hp1, hp2⟩ := List.mem_filter.mp hp
      have hp2 : p.1 ∉ wr := by simpa using hp2
      exact ⟨kept _ _ hp2 (N p hp1).1, (N p hp1).2⟩
  · intro b o e
    unfold AH.anew at e
    by_cases hb : b ∈ fp
    · rw [if_pos hb] at e
      cases q : h'.get? b with
      | none => rw [q] at e; cases e
      | some ob => rw [q] at e; cases e; exact List.mem_append_left _ (List.mem_filterMap.mpr ⟨b, hb, by rw [q]; rfl⟩)
    · rw [if_neg hb] at e
      have k1 : ∀ ob, (b, ob) ∈ news → (b, ob) ∈ (fp.filterMap fun b => (h'.get? b).map fun o => (b, o)) ++ news.filter (fun p => decide (p.1 ∉ wr)) := fun ob hm =>
        List.mem_append_right _ (List.mem_filter.mpr ⟨hm, by simpa using fun q => hb (sub _ q)⟩)
      have q := ab b o e
      cases o with
      | list xs => obtain ⟨vs, n, hm, r⟩ := q; exact ⟨vs, n, k1 _ hm, r⟩
      | tup xs => obtain ⟨vs, n, hm, r⟩ := q; exact ⟨vs, n, k1 _ hm, r⟩
      | own c => obtain ⟨ob, hm⟩ := q; exact ⟨ob, k1 _ hm⟩
      | raw ob => exact k1 _ q
      | dic ob => exact k1 _ q
      | inst Cc d fs =>
        obtain ⟨es, n, hm, hm2, r⟩ := q
        have hd := S.sep b Cc d fs e
        refine ⟨es, n, k1 _ hm, List.mem_append_right _ (List.mem_filter.mpr ⟨hm2, ?_⟩), r⟩
        have : d ∉ wr := fun q => by obtain ⟨o, eo⟩ := hr d (sub _ q); rw [hd] at eo; cases eo
        simpa using this
theorem anew_raw {fp : List Addr} (live : ∀ b ∈ fp, ∃ o, h.get? b = some o) : ∀ b ∈ fp, ∃ o, H.anew fp h b = some (.raw o) := fun b hb => by
  obtain ⟨o, e⟩ := live b hb
  exact ⟨o, by unfold AH.anew; rw [if_pos hb, e]; rfl⟩
theorem anew_loc {H0 : AH} {fp : List Addr} (f0 : ∀ b ∈ fp, H0 b = none) (hr : ∀ b ∈ fp, ∃ o, H b = some (.raw o)) : Loc H0 H (H.anew fp h) := fun b => by
  unfold AH.anew
  by_cases hb : b ∈ fp
  · rw [if_pos hb]
    refine .inr ⟨f0 b hb, .inr (hr b hb), ?_⟩
    cases h.get? b with
    | none => exact .inl rfl
    | some o => exact .inr ⟨o, rfl⟩
  · rw [if_neg hb]; exact .inl rfl
/-- the iterator's own objects, forgotten -/
def AH.but (H : AH) (fp : List Addr) : AH := fun b => if b ∈ fp then none else H b
theorem St.but (S : St w K C ρ H h) {fp wr : List Addr} (hr : ∀ b ∈ fp, ∃ o, H b = some (.raw o)) (sub : ∀ b ∈ wr, b ∈ fp) (kept : ∀ b o, b ∉ wr → h.get? b = some o → h'.get? b = some o) : St w K C ρ (H.but fp) h' := by
  obtain ⟨m, news, F, N, fo, ab⟩ := S.at_
  have at_ : ∀ b ∈ fp, b ≠ C.L ∧ C.h₀.get? b = none := fun b hb => by
    obtain ⟨o, e⟩ := hr b hb
    obtain ⟨_, _, r⟩ := S.live e; exact r
  have F' : Fr C.h₀ C.L h' m := by
    obtain ⟨oL, es, ep, hL, r⟩ := F.ns
    refine ⟨⟨oL, es, ep, kept _ _ (fun q => (at_ _ (sub _ q)).1 rfl) hL, r⟩, fun b o e => kept b o (fun q => ?_) (F.keep b o e), F.above⟩
    rw [(at_ _ (sub _ q)).2] at e; cases e
  refine ⟨S.ok, fun a Cc d fs e => ?_, m, news.filter (fun p => decide (p.1 ∉ wr)), F', ?_, fo, ?_⟩
  · unfold AH.but at e ⊢
    by_cases hb : a ∈ fp
    · rw [if_pos hb] at e; cases e
    · rw [if_neg hb] at e
      have hd := S.sep a Cc d fs e
      rw [if_neg]; exact hd
      intro q; obtain ⟨o, eo⟩ := hr d q; rw [hd] at eo; cases eo
  · intro p hp
    obtain ⟨hp1, hp2⟩ := List.mem_filter.mp hp
    have hp2 : p.1 ∉ wr := by simpa using hp2
    exact ⟨kept _ _ hp2 (N p hp1).1, (N p hp1).2⟩
  · intro b o e
    unfold AH.but at e
    by_cases hb : b ∈ fp
    · rw [if_pos hb] at e; cases e
    · rw [if_neg hb] at e
      have k1 : ∀ ob, (b, ob) ∈ news → (b, ob) ∈ news.filter (fun p => decide (p.1 ∉ wr)) := fun ob hm => List.mem_filter.mpr ⟨hm, by simpa using fun q => hb (sub _ q)⟩
      have q := ab b o e
      cases o with
      | list xs => obtain ⟨vs, n, hm, r⟩ := q; exact ⟨vs, n, k1 _ hm, r⟩
      | tup xs => obtain ⟨vs, n, hm, r⟩ := q; exact ⟨vs, n, k1 _ hm, r⟩
      | own c => obtain ⟨ob, hm⟩ := q; exact ⟨ob, k1 _ hm⟩
      | raw ob => exact k1 _ q
      | dic ob => exact k1 _ q
      | inst Cc d fs =>
        obtain ⟨es, n, hm, hm2, r⟩ := q
        have hd := S.sep b Cc d fs e
        refine ⟨es, n, k1 _ hm, List.mem_filter.mpr ⟨hm2, ?_⟩, r⟩
        have : d ∉ wr := fun q => by obtain ⟨o, eo⟩ := hr d (sub _ q); rw [hd] at eo; cases eo
        simpa using this
theorem but_loc {H0 : AH} {fp : List Addr} (f0 : ∀ b ∈ fp, H0 b = none) (hr : ∀ b ∈ fp, ∃ o, H b = some (.raw o)) : Loc H0 H (H.but fp) := fun b => by
  unfold AH.but
  by_cases hb : b ∈ fp
  · rw [if_pos hb]; exact .inr ⟨f0 b hb, .inr (hr b hb), .inl rfl⟩
  · rw [if_neg hb]; exact .inl rfl

/-- an iterable: what it gives, and its iterator -/
def IterTo (prog : Program) (w : World) (K : Frag) (C : Cx) (ρ : Rho) (H : AH) (iter : PySem.Expr) (G : Nat → (Nat → AV → Prop) → AH → Prop) : Prop :=
  ∀ (s : Shared) (Q E : Value → Shared → Prop), St w K C ρ H s.heap →
    (∀ n P H0 I fp wr Pv Stt H1 h' tk, G n P H0 → Walks prog w C.A I fp wr n Pv Stt → (∀ i v, Pv i v → ∃ av, P i av ∧ av.ok v) → (∀ i h, Stt i h → ∀ b ∈ fp, ∃ o, h.get? b = some o) →
      (∀ b ∈ fp, H0 b = none) → (∀ b ∈ fp, ∃ o, H1 b = some (.raw o)) → (∀ b, b ∉ fp → H1 b = H0 b) → Stt 0 h' → St w K C ρ H1 h' → Q (.ref I) { s with heap := h', toks := tk }) →
    wpAny (model prog w) C.A (eval iter C.env) (fun xv s₁ => wpAny (model prog w) C.A (pyIter xv) Q E s₁) E s

def LoopR (R : AF → Rho → AH → Prop) (Jn : Rho → AH → Prop) (H : AH) (f : AF) (ρ : Rho) (H' : AH) : Prop := match f with
  | .next => Jn ρ H' ∧ KR H H'
  | .cont => Jn ρ H' ∧ KR H H'
  | .brk => R .next ρ H'
  | .ret a => R (.ret a) ρ H'

theorem St.cls (S : St w K C ρ H h) : (C.env.scope.kind == ScopeKind.class || C.env.scope.kind == ScopeKind.module && C.env.locals != C.env.globals) = false := by
  show (C.scope.kind == ScopeKind.class || C.scope.kind == ScopeKind.module && _) = false
  rw [S.ok.kind]; rfl

theorem ex_for {x : Str} {xp pos : Pos} {iter : PySem.Expr} {body : List Stmt} {G : Nat → (Nat → AV → Prop) → AH → Prop} {R : AF → Rho → AH → Prop} (ix : Nat) (nx : C.scope.names[ix]? = some (x, .local)) (X : IterTo prog w K C ρ H iter G)
    (Y : ∀ n P H0, G n P H0 → ∃ J : Nat → Rho → AH → Prop, J 0 ρ H0 ∧ (∀ i r a b, Loc H0 a b → J i r a → J i r b) ∧
      (∀ i r a av, i < n → P i av → J i r a → Exs prog w K C (r.set ix av) a body (LoopR R (J (i + 1)) a)) ∧ (∀ r a, J n r a → R .next r a))
    (hs : ∀ x, foldedSetIterable iter C.env x = pure x := by intro _; rfl) : Ex1 prog w K C ρ H (.For (.Name x xp) iter body [] pos) R := by
  intro s Q E S k
  refine wpAny_mono (E := fun _ _ => False) (Q := Q) ?_ (fun _ _ q => q) (fun _ _ q => q.elim)
  refine wpAny_For (X s _ _ S ?_) hs
  intro n P H0 I fp wr Pv Stt H1 h1 tk1 g W hP live f0 raw1 out1 st1 S1
  obtain ⟨J, j0, stab, turn, done⟩ := Y n P H0 g
  have hLf : C.L ∉ fp := fun q => by obtain ⟨o, e⟩ := raw1 _ q; obtain ⟨_, _, r, _⟩ := S1.live e; exact r rfl
  refine codeAny_forLoop_any
    (fun m s' => ∃ h tk r a i, s' = { s with heap := h, toks := tk } ∧ Stt i h ∧ St w K C r a h ∧ (∀ b ∈ fp, ∃ o, a b = some (.raw o)) ∧ J i r a ∧ i ≤ n ∧ m = n + 1 - i) ?_ (n + 1)
    ⟨h1, tk1, ρ, H1, 0, rfl, st1, S1, raw1, stab 0 ρ H0 H1 (fun b => ?_) j0, Nat.zero_le _, rfl⟩
  · rintro m s' ⟨h2, tk2, r, a, i, rfl, st2, S2, raw2, j2, hi, rfl⟩
    by_cases hlt : i < n
    · refine W.item i _ _ _ hlt st2 fun v h3 tk3 hv st3 kept => ?_
      obtain ⟨av, pav, okv⟩ := hP i v hv
      have S3 := S2.anew raw2 W.sub kept (live _ _ st3)
      have raw3 := anew_raw (H := a) (live _ _ st3)
      have j3 := stab i r a _ (anew_loc (h := h3) f0 raw2) j2
      show wpAny _ _ (pure ()) _ _ _
      refine wpAny_pure ?_
      obtain ⟨m3, news3, F3, N3, fo3, ab3⟩ := S3.at_
      refine wpAny_assign_Name (storeX_L (s := { s with heap := h3, toks := tk3 }) F3 N3 (fun h4 F4 N4 => ?_) S3.ok.kind (lookup_of_names S3.ok.nd nx))
      have S4 := S3.store nx okv F4 N4 fo3 ab3
      have st4 : Stt (i + 1) h4 := W.frame _ _ _ st3 fun b hb o e => by
        obtain ⟨o3, e3⟩ := raw3 b hb
        obtain ⟨m4, news4, F5, N5, fo5, ab5⟩ := S4.at_
        have h5 := (N5 _ (ab5 b _ e3)).1
        have h6 : h3.get? b = some o3 := (N3 _ (ab3 b _ e3)).1
        rw [h6] at e; cases e; exact h5
      refine turn i r _ av hlt pav j3 { s with heap := h4, toks := _ } _ _ S4 ?_
      intro af ρ5 H5 f h5 tk5 q5 of5 S5
      have fin : J (i + 1) ρ5 H5 ∧ KR (a.anew fp h3) H5 → ∃ m, m < n + 1 - i ∧ ∃ h tk r a i, ({ s with heap := h5, toks := tk5 } : Shared) = { s with heap := h, toks := tk } ∧ Stt i h ∧ St w K C r a h ∧ (∀ b ∈ fp, ∃ o, a b = some (.raw o)) ∧ J i r a ∧ i ≤ n ∧ m = n + 1 - i := by
        rintro ⟨q5, kr⟩
        refine ⟨n + 1 - (i + 1), by omega, h5, tk5, ρ5, H5, i + 1, rfl, W.frame _ _ _ st4 fun b hb o e => ?_, S5, fun b hb => ?_, q5, hlt, rfl⟩
        · obtain ⟨o3, e3⟩ := raw3 b hb
          obtain ⟨m4, news4, F6, N6, fo6, ab6⟩ := S4.at_
          obtain ⟨m5, news5, F7, N7, fo7, ab7⟩ := S5.at_
          have h6 := (N6 _ (ab6 b _ e3)).1
          have h7 := (N7 _ (ab7 b _ (kr b o3 e3))).1
          have h6 : h4.get? b = some o3 := h6
          have h7 : h5.get? b = some o3 := h7
          rw [h6] at e; cases e; exact h7
        · obtain ⟨o3, e3⟩ := raw3 b hb; exact ⟨o3, kr b o3 e3⟩
      cases af with
      | next => cases of5; exact fin q5
      | cont => cases of5; exact fin q5
      | brk => cases of5; exact k .next ρ5 H5 .next h5 tk5 q5 rfl S5
      | ret v => obtain ⟨vv, rfl, ov⟩ := of5; exact k (.ret v) ρ5 H5 _ h5 tk5 q5 ⟨vv, rfl, ov⟩ S5
    · have hin : i = n := by omega
      subst hin
      refine W.done _ _ _ st2 fun h3 tk3 kept => wpAny_execs_nil ?_
      exact k .next r (a.but fp) .next h3 tk3 (done _ _ (stab i r a _ (but_loc f0 raw2) j2)) rfl (S2.but raw2 W.sub kept)
  · by_cases hb : b ∈ fp
    · exact .inr ⟨f0 b hb, .inl (f0 b hb), .inr (raw1 b hb)⟩
    · exact .inl (out1 b hb)

/-- while -/
theorem ex_while {t : PySem.Expr} {body : List Stmt} {pos : Pos} {R : AF → Rho → AH → Prop} (J : Nat → Rho → AH → Prop) (n : Nat) (j0 : J n ρ H)
    (turn : ∀ n r a, J n r a → ∃ c, TsP prog w K C r a t c ∧ (c = false → R .next r a) ∧
      (c = true → Exs prog w K C r a body (fun f r' a' => match f with
        | .next => ∃ m, m < n ∧ J m r' a'
        | .cont => ∃ m, m < n ∧ J m r' a'
        | .brk => R .next r' a'
        | .ret v => R (.ret v) r' a'))) : Ex1 prog w K C ρ H (.While t body [] pos) R := by
  intro s Q E S k
  refine wpAny_mono (E := fun _ _ => False) (Q := Q) ?_ (fun _ _ q => q) (fun _ _ q => q.elim)
  refine wpAny_While (codeAny_whileLoop (fun n s' => ∃ h tk r a, s' = { s with heap := h, toks := tk } ∧ St w K C r a h ∧ J n r a) ?_ n ⟨s.heap, s.toks, ρ, H, rfl, S, j0⟩)
  rintro n s' ⟨h, tk, r, a, rfl, S', j⟩
  obtain ⟨c, T, no, yes⟩ := turn n r a j
  refine T _ _ _ S' fun h2 tk2 S2 => ?_
  cases c with
  | false => rw [if_neg Bool.false_ne_true]; exact wpAny_execs_nil (k .next r a .next h2 tk2 (no rfl) rfl S2)
  | true =>
    rw [if_pos rfl]
    refine yes rfl { s with heap := h2, toks := tk2 } _ _ S2 ?_
    intro af ρ5 H5 f h5 tk5 q5 of5 S5
    cases af with
    | next => cases of5; obtain ⟨m, hm, q⟩ := q5; exact ⟨m, hm, h5, tk5, ρ5, H5, rfl, S5, q⟩
    | cont => cases of5; obtain ⟨m, hm, q⟩ := q5; exact ⟨m, hm, h5, tk5, ρ5, H5, rfl, S5, q⟩
    | brk => cases of5; exact k .next ρ5 H5 .next h5 tk5 q5 rfl S5
    | ret v => obtain ⟨vv, rfl, ov⟩ := of5; exact k (.ret v) ρ5 H5 _ h5 tk5 q5 ⟨vv, rfl, ov⟩ S5
end Mine
namespace Mine
variable {prog : Program} {w : World} {K : Frag} {C : Cx} {ρ ρ' : Rho} {H H' : AH} {h h' : Heap}

theorem St.kept (S : St w K C ρ H h) (k : ∀ b o, h.get? b = some o → h'.get? b = some o) : St w K C ρ H h' := by
  obtain ⟨m, news, F, N, fo, ab⟩ := S.at_
  obtain ⟨oL, es, ep, hL, r⟩ := F.ns
  exact ⟨S.ok, S.sep, m, news, ⟨⟨oL, es, ep, k _ _ hL, r⟩, fun b o e => k b o (F.keep b o e), F.above⟩, fun p hp => ⟨k _ _ (N p hp).1, (N p hp).2⟩, fo, ab⟩
theorem St.ext (S : St w K C ρ H h) (k : Heap.ExtBut h.objs.size h h') : St w K C ρ H h' := S.kept fun b o e => k b o (Nat.ne_of_lt (Heap.lt_size e)) e

/-- for .. in range(n) -/
theorem it_range {xp pos : Pos} {e : PySem.Expr} {P : Nat → AH → Prop} (i : Nat) (n : C.scope.names[i]? = some (("range" : Str), NameKind.globalImplicit)) (g : nsIn K mainGlobals "range" = some none)
    (X : EvG prog w K C ρ H e (fun a H0 => ∃ m : Nat, a = .int m ∧ m < 1000000 ∧ P m H0)) (hst : starEach [e] C.env = [(false, eval e C.env)] := by rfl) :
    IterTo prog w K C ρ H (.Call (.Name "range" xp) [e] [] pos) (fun m Pi H0 => P m H0 ∧ Pi = fun i a => a = .int i) := by
  intro s Q E S k
  refine Call_ (name_boot i n g boot_range (by decide) S ?_) rfl
  refine PyProof.Rows.callWith_type1 (evl_cons (P := fun as H2 => ∃ m : Nat, as = [.int m] ∧ m < 1000000 ∧ P m H2) X (fun a H1 p => evl_nil ?_) hst s _ E S ?_) hst rfl
  · obtain ⟨m, rfl, hm, pm⟩ := p; exact ⟨m, rfl, hm, pm⟩
  rintro avs H0 vs h1 tk1 ⟨m, rfl, hm, pm⟩ o1 S1
  cases o1 with | cons oa ob =>
  cases ob
  obtain ⟨t, rfl⟩ := oa
  refine call_range_1 (s := { s with heap := h1, toks := tk1 }) ?_
  have S2 := S1.kept (h' := h1.push { cls := .type "range", data := .fields #[.int 0 tk1, .int m t, .int 1 (tk1 + 1)] }) fun _ _ e => Heap.get?_push_of_some _ e
  refine wpAny_pyIter_range (IsRange.new ..) (small_one (by decide) (by decide) (by omega) (by omega)) ?_
  have hsz : Builtin.Range.rangeSize 0 (m : Int) 1 = (m : Int) := by rw [rangeSize_one]; split <;> omega
  rw [hsz]
  generalize h1.push { cls := .type "range", data := .fields #[.int 0 tk1, .int m t, .int 1 (tk1 + 1)] } = h2 at S2 ⊢
  obtain ⟨m3, news, F, N, fo, ab⟩ := S2.at_
  refine k m (fun i a => a = .int i) H0 h2.objs.size [h2.objs.size] [h2.objs.size] _ _ (H0.set h2.objs.size (.raw _)) _ _ ⟨pm, rfl⟩ (Walks.range S2.ok.hh _ 0 1 m) ?_ ?_ ?_ ?_ ?_ ?_ (S2.fresh S2.noneNew (F.push _) (N.push F _) fo ab (.head _) fun _ _ _ q => by cases q)
  · rintro i v ⟨t, rfl⟩; exact ⟨_, rfl, t, by simp⟩
  · intro i h3 st b hb; rw [List.mem_singleton.mp hb]; exact ⟨_, st⟩
  · intro b hb; rw [List.mem_singleton.mp hb]; exact S2.noneNew
  · intro b hb; rw [List.mem_singleton.mp hb]; exact ⟨_, AH.set_self⟩
  · intro b hb; exact AH.set_ne (by simpa using hb)
  · have : IsRangeIter (h2.push { cls := .type "range_iterator", data := .fields #[rawInt 0, rawInt m, rawInt 1] }) h2.objs.size 0 m 1 := Heap.get?_push_size _ rfl
    simpa using this

/-- for .. in a new list -/
theorem it_list {iter : PySem.Expr} {P : List AV → AH → Prop} (X : EvG prog w K C ρ H iter (fun a H1 => ∃ l xs H0, a = .ref l ∧ H0 l = none ∧ H1 = H0.set l (.list xs) ∧ Sep H0 ∧ P xs H0)) :
    IterTo prog w K C ρ H iter (fun n Pi H0 => ∃ xs : List AV, P xs H0 ∧ n = xs.length ∧ Pi = fun i a => xs[i]? = some a) := by
  intro s Q E S k
  refine X s _ E S ?_
  rintro a H1 v h1 tk1 ⟨l, xs, H0, rfl, hn, rfl, sp0, p⟩ o S1
  cases o
  obtain ⟨m, news, F, N, fo, ab⟩ := S1.at_
  obtain ⟨vs, n, hm, ov⟩ := ab l _ AH.set_self
  refine wpAny_pyIter_list (s := { s with heap := h1, toks := tk1 }) (News.isList N hm) ?_
  have hlt : l < h1.objs.size := Heap.lt_size (N _ hm).1
  have S2 : St w K C ρ ((H0.set l (.raw (listOf vs n))).set h1.objs.size (.raw { cls := .type "list_iterator", data := .fields #[.ref l, .int 0 0] })) (h1.push { cls := .type "list_iterator", data := .fields #[.ref l, .int 0 0] }) := by
    have nn : H0 h1.objs.size = none := by
      have := S1.noneNew
      rwa [AH.set_ne (Nat.ne_of_gt hlt)] at this
    have Sa : St w K C ρ (H0.set l (.raw (listOf vs n))) h1 := by
      refine ⟨S1.ok, fun b Cc d fs e => ?_, m, news, F, N, fo, fun b o e => ?_⟩
      · unfold AH.set at e
        by_cases hb : b = l
        · rw [if_pos hb] at e; cases e
        · rw [if_neg hb] at e; exact AH.set_keep hn (sp0 b Cc d fs e)
      · unfold AH.set at e
        by_cases hb : b = l
        · rw [if_pos hb] at e; cases e; rw [hb]; exact hm
        · rw [if_neg hb] at e; exact ab b o (AH.set_keep hn e)
    refine Sa.fresh ?_ (F.push _) (N.push F _) fo (fun b o e => ?_) (.head _) fun _ _ _ q => by cases q
    · rw [AH.set_ne (Nat.ne_of_gt hlt)]; exact nn
    · obtain ⟨m', news', F', N', fo', ab'⟩ := Sa.at_
      unfold AH.set at e
      by_cases hb : b = l
      · rw [if_pos hb] at e; cases e; rw [hb]; exact hm
      · rw [if_neg hb] at e; exact ab b o (AH.set_keep hn e)
  have W := Walks.list (prog := prog) (w := w) (A := C.A) S1.ok.hh h1.objs.size l (Nat.ne_of_lt hlt) vs
  have hlen : vs.size = xs.length := by rw [← ov.len]; simp
  rw [hlen] at W
  refine k xs.length (fun i a => xs[i]? = some a) H0 h1.objs.size _ _ _ _ _ _ tk1 ⟨xs, p, rfl, rfl⟩ W ?_ ?_ ?_ ?_ ?_ ?_ S2
  · intro i v hv
    have hv : vs.toList[i]? = some v := by simpa using hv
    have hi := (List.getElem?_eq_some_iff.mp hv).1
    rw [ov.len] at hi
    obtain ⟨v', hv', o'⟩ := ov.get (List.getElem?_eq_getElem hi)
    rw [hv] at hv'; cases hv'
    exact ⟨_, List.getElem?_eq_getElem hi, o'⟩
  · rintro i h3 ⟨⟨o1, e1, _⟩, ⟨o2, e2, _⟩⟩ b hb
    rcases List.mem_cons.mp hb with rfl | hb
    · exact ⟨_, e1⟩
    · rw [List.mem_singleton.mp hb]; exact ⟨_, e2⟩
  · intro b hb
    rcases List.mem_cons.mp hb with rfl | hb
    · have := S1.noneNew
      rwa [AH.set_ne (Nat.ne_of_gt hlt)] at this
    · rw [List.mem_singleton.mp hb]; exact hn
  · intro b hb
    rcases List.mem_cons.mp hb with rfl | hb
    · exact ⟨_, AH.set_self⟩
    · rw [List.mem_singleton.mp hb]; exact ⟨_, by rw [AH.set_ne (Nat.ne_of_lt hlt)]; exact AH.set_self⟩
  · intro b hb
    simp only [List.mem_cons, List.not_mem_nil, or_false, not_or] at hb
    rw [AH.set_ne hb.1, AH.set_ne hb.2]
  · exact ⟨⟨_, Heap.get?_push_size _ rfl, rfl, rfl⟩, ⟨_, Heap.get?_push_of_some _ (N _ hm).1, rfl, n, rfl⟩⟩

/-- an object's place is given another object; what else is known stays -/
theorem St.replace {a : Addr} {o o2 : AO} {m : Str → Option Value} {news : List (Addr × Obj)} {ob2 : Obj} (S : St w K C ρ H h) (e : H a = some o) (ni : ∀ C d fs, o ≠ .inst C d fs) (no : ∀ b, o ≠ .own b) (ni2 : ∀ C d fs, o2 ≠ .inst C d fs)
    (ab : ∀ b o, H b = some o → AbsAt w.params news b o) (F : Fr C.h₀ C.L h' m) (N : News C.h₀ C.L h' ((a, ob2) :: news.filter fun p => decide (p.1 ≠ a))) (fo : FrOk C ρ m)
    (x : AbsAt w.params ((a, ob2) :: news.filter fun p => decide (p.1 ≠ a)) a o2) : St w K C ρ (H.set a o2) h' := by
  refine ⟨S.ok, fun b Cc d fs eb => ?_, m, _, F, N, fo, fun b ob eb => ?_⟩
  · unfold AH.set at eb ⊢
    by_cases hb : b = a
    · rw [if_pos hb] at eb; cases eb; exact absurd rfl (ni2 _ _ _)
    · rw [if_neg hb] at eb
      have hd := S.sep b Cc d fs eb
      rw [if_neg]; exact hd
      intro q; rw [q, e] at hd; cases hd; exact no _ rfl
  · unfold AH.set at eb
    by_cases hb : b = a
    · rw [if_pos hb] at eb; cases eb; rw [hb]; exact x
    · rw [if_neg hb] at eb
      refine (ab b ob eb).swap hb fun Cc d fs eo q => ?_
      subst eo q
      have hd := S.sep b Cc _ fs eb
      rw [e] at hd; cases hd; exact no _ rfl

theorem Oks.snoc {as : List AV} {vs : List Value} {a : AV} {v : Value} (o : Oks as vs) (ov : a.ok v) : Oks (as ++ [a]) (vs ++ [v]) := by
  induction o with
  | nil => exact .cons ov .nil
  | cons o _ ih => exact .cons o ih
theorem append_ok {s : Shared} {a : Addr} {xs : List AV} {av : AV} {v : Value} {Q E : Value → Shared → Prop} (S : St w K C ρ H s.heap) (e : H a = some (.list xs)) (ov : av.ok v) (hz : xs.length ≤ 16777216)
    (k : ∀ h', St w K C ρ (H.set a (.list (xs ++ [av]))) h' → Q .none { s with heap := h' }) : wpAny (model prog w) C.A (call (.builtin "list.append") [.ref a, v]) Q E s := by
  obtain ⟨m, news, F, N, fo, ab⟩ := S.at_
  obtain ⟨vs, n, hm, o⟩ := ab a _ e
  refine append_K F (swap_news N hm) swap_upd (fun h' F' N' => k h' (S.replace e (fun _ _ _ q => by cases q) (fun _ q => by cases q) (fun _ _ _ q => by cases q) ab F' N' fo ⟨_, _, .head _, ?_⟩)) ?_
  · rw [Array.toList_push]; exact o.snoc ov
  · have : vs.size = xs.length := by rw [← o.len]; simp
    rw [this]; exact Nat.le_trans hz sizeLine_big
theorem Oks.set {as : List AV} {vs : List Value} {a : AV} {v : Value} (o : Oks as vs) (ov : a.ok v) : ∀ i : Nat, Oks (as.set i a) (vs.set i v) := by
  induction o with
  | nil => intro i; exact .nil
  | cons o o2 ih =>
    intro i
    cases i with
    | zero => exact .cons ov o2
    | succ i => exact .cons o (ih i)
theorem setitem_ok {s : Shared} {a : Addr} {xs : List AV} {av : AV} {v : Value} {k : Int} {t : Tok} {Q : Unit → Shared → Prop} {E : Value → Shared → Prop} (S : St w K C ρ H s.heap) (e : H a = some (.list xs)) (ov : av.ok v) (h0 : 0 ≤ k) (h1 : k < 2 ^ 63) (h2 : k.toNat < xs.length)
    (q : ∀ h', St w K C ρ (H.set a (.list (xs.set k.toNat av))) h' → Q () { s with heap := h' }) : wpAny (model prog w) C.A (setItem (.ref a) (.int k t) v) Q E s := by
  obtain ⟨m, news, F, N, fo, ab⟩ := S.at_
  obtain ⟨vs, n, hm, o⟩ := ab a _ e
  have N1 := swap_news N hm
  have z := N _ hm
  have hsz : vs.size = xs.length := by rw [← o.len]; simp
  refine ki_setAt z.1 h0 h1 (by rw [hsz]; omega) (q _ ?_)
  have N2 : News C.h₀ C.L (s.heap.update a (Obj.mapSeq (·.setIfInBounds k.toNat v))) ((a, listOf (vs.setIfInBounds k.toNat v) (if (vs.setIfInBounds k.toNat v).size == vs.size then n else n + 1)) :: news.filter fun p => decide (p.1 ≠ a)) :=
    ki_turn (pre := []) (·.setIfInBounds k.toNat v) N1 (fun _ h => (nomatch h)) (fun p hp => by have := (List.mem_filter.mp hp).2; simpa using this) rfl rfl
  refine S.replace (ob2 := listOf (vs.setIfInBounds k.toNat v) (if (vs.setIfInBounds k.toNat v).size == vs.size then n else n + 1)) e (fun _ _ _ q => by cases q) (fun _ q => by cases q) (fun _ _ _ q => by cases q) ab (F.change (Heap.SameBut.update ..) z.2.1 z.2.2) N2 fo ⟨_, _, .head _, ?_⟩
  rw [Array.toList_setIfInBounds]
  exact o.set ov _
end Mine
namespace Mine
variable {prog : Program} {w : World} {K : Frag} {C : Cx} {ρ ρ' : Rho} {H H' : AH} {h h' : Heap}

/-- a method's call on one line -/
theorem meth_eq {o : PySem.Expr} {name : Str} {ap pos : Pos} {as : List PySem.Expr} (h0 : ∀ w : Sem Value, attributeBase o name C.env w = w) (h1 : methodCallForm (as.length + 0) (backTo pos (starEach as C.env)) (backToKw pos (keywordEach [] C.env)) = true) (h2 : (ap.endLine == pos.line) = true) :
    ∃ pl : Sem Bool, eval (.Call (.Attribute o name ap) as [] pos) C.env = (do let ov ← eval o C.env; standAt ap.atName; let (f, first) ← holding [ov] (getMethod ov name pl); callWith pos f first (backTo pos (starEach as C.env)) (backToKw pos (keywordEach [] C.env))) := by
  refine ⟨(do return (← importBound o C.env).getD true), ?_⟩
  rw [show eval (.Call (.Attribute o name ap) as [] pos) C.env = (do
    let ov ← attributeBase o name C.env (eval o C.env)
    standAt ap.atName
    methodCall o name ap pos C.env ov (as.length + 0) (backTo pos (starEach as C.env)) (backToKw pos (keywordEach [] C.env))) from rfl, h0]
  unfold methodCall calleeOf methodCallPos
  simp only [h1, h2, if_true, Bool.not_true, Bool.false_or, pure_bind]
theorem base_name {x : Str} {xp : Pos} {name : Str} {env : Env} (w : Sem Value) : attributeBase (.Name x xp) name env w = w := rfl
theorem base_attr {o : PySem.Expr} {x : Str} {xp : Pos} {name : Str} {env : Env} (w : Sem Value) : attributeBase (.Attribute o x xp) name env w = w := rfl
theorem ex_append_ {o e : PySem.Expr} {ap pos pos' : Pos} {a : Addr} {xs0 : List AV} {P : AV → AH → Prop} {R : AF → Rho → AH → Prop}
    (hm : ∃ pl : Sem Bool, eval (.Call (.Attribute o "append" ap) [e] [] pos) C.env = (do let ov ← eval o C.env; standAt ap.atName; let (f, first) ← holding [ov] (getMethod ov "append" pl); callWith pos f first (backTo pos (starEach [e] C.env)) (backToKw pos (keywordEach [] C.env))))
    (X : EvP prog w K C ρ H o (.ref a)) (l : H a = some (.list xs0)) (Y : EvG prog w K C ρ H e P) (r : ∀ av H1, P av H1 → ∃ xs, H1 a = some (.list xs) ∧ xs.length ≤ 16777216 ∧ R .next ρ (H1.set a (.list (xs ++ [av]))))
    (hst : starEach [e] C.env = [(false, eval e C.env)]) (hsw : swapsWith (.Call (.Attribute o "append" ap) [e] [] pos) none pos'.line C.env = pure false) :
    Ex1 prog w K C ρ H (.Expr (.Call (.Attribute o "append" ap) [e] [] pos) pos') R := by
  intro s Q E S k
  refine wpAny_Expr ?_ (by show (C.scope.kind == ScopeKind.module && _) = false; rw [S.ok.kind]; rfl) hsw
  obtain ⟨pl, he'⟩ := hm
  refine methodCall_KW (pl := pl) (X s _ E S fun v h1 tk1 ov S1 => ?_) he'
  cases ov
  obtain ⟨m, news, F, N, fo, ab⟩ := S1.at_
  obtain ⟨vs, n, hmem, oo⟩ := ab a _ l
  refine listMethod_K (s := { s with heap := h1, toks := tk1 }) N hmem PySem.F.slot_list_append PySem.F.type_list_append ?_
  refine callWith_method1 (evl_cons (P := fun as H2 => ∃ av, as = [av] ∧ P av H2) Y (fun av H1 p => evl_nil ⟨av, rfl, p⟩) hst { s with heap := h1, toks := tk1 } _ E S1 ?_) hst rfl
  rintro avs H1 vs1 h2 tk2 ⟨av, rfl, p⟩ o1 S2
  cases o1 with | cons oa ob =>
  cases ob
  obtain ⟨xs, e1, hz, rr⟩ := r av H1 p
  exact append_ok (s := { s with heap := h2, toks := tk2 }) S2 e1 oa hz fun h3 S3 => k .next ρ _ .next h3 tk2 rr rfl S3
theorem ex_append {x : Str} {xp : Pos} {e : PySem.Expr} {ap pos pos' : Pos} {a : Addr} {xs0 : List AV} {P : AV → AH → Prop} {R : AF → Rho → AH → Prop}
    (X : EvP prog w K C ρ H (.Name x xp) (.ref a)) (l : H a = some (.list xs0)) (Y : EvG prog w K C ρ H e P) (r : ∀ av H1, P av H1 → ∃ xs, H1 a = some (.list xs) ∧ xs.length ≤ 16777216 ∧ R .next ρ (H1.set a (.list (xs ++ [av]))))
    (hst : starEach [e] C.env = [(false, eval e C.env)] := by rfl) (h1 : methodCallForm 1 (backTo pos (starEach [e] C.env)) (backToKw pos (keywordEach [] C.env)) = true := by rfl) (h2 : (ap.endLine == pos.line) = true := by rfl) :
    Ex1 prog w K C ρ H (.Expr (.Call (.Attribute (.Name x xp) "append" ap) [e] [] pos) pos') R := ex_append_ (meth_eq base_name h1 h2) X l Y r hst rfl
theorem ex_appendA {o : PySem.Expr} {x : Str} {xp : Pos} {e : PySem.Expr} {ap pos pos' : Pos} {a : Addr} {xs0 : List AV} {P : AV → AH → Prop} {R : AF → Rho → AH → Prop}
    (X : EvP prog w K C ρ H (.Attribute o x xp) (.ref a)) (l : H a = some (.list xs0)) (Y : EvG prog w K C ρ H e P) (r : ∀ av H1, P av H1 → ∃ xs, H1 a = some (.list xs) ∧ xs.length ≤ 16777216 ∧ R .next ρ (H1.set a (.list (xs ++ [av]))))
    (hst : starEach [e] C.env = [(false, eval e C.env)] := by rfl) (h1 : methodCallForm 1 (backTo pos (starEach [e] C.env)) (backToKw pos (keywordEach [] C.env)) = true := by rfl) (h2 : (ap.endLine == pos.line) = true := by rfl) :
    Ex1 prog w K C ρ H (.Expr (.Call (.Attribute (.Attribute o x xp) "append" ap) [e] [] pos) pos') R := ex_append_ (meth_eq base_attr h1 h2) X l Y r hst rfl

/-- pool[2] = e -/
theorem ex_setitem {o e i : PySem.Expr} {tp pos : Pos} {a : Addr} {k : Int} {P : AV → AH → Prop} {R : AF → Rho → AH → Prop} (X : EvG prog w K C ρ H e P)
    (r : ∀ av H', P av H' → ∃ xs, EvP prog w K C ρ H' o (.ref a) ∧ EvP prog w K C ρ H' i (.int k) ∧ H' a = some (.list xs) ∧ k.toNat < xs.length ∧ R .next ρ (H'.set a (.list (xs.set k.toNat av)))) (h0 : 0 ≤ k) (h1 : k < 2 ^ 63)
    (hsw : swapsWith e (some (.Subscript o i tp)) pos.line C.env = pure false := by rfl) : Ex1 prog w K C ρ H (.Assign [.Subscript o i tp] e pos) R := by
  intro s Q E S kk
  refine wpAny_Assign_Subscript (X s _ E S fun av H' v h' tk p ov S' => ?_) hsw
  obtain ⟨xs, Y, Z, ha, hl, hr⟩ := r av H' p
  refine Y { s with heap := h', toks := tk } _ E S' fun v2 h2 tk2 ov2 S2 => ?_
  cases ov2
  refine Z { s with heap := h2, toks := tk2 } _ E S2 fun v3 h3 tk3 ov3 S3 => ?_
  obtain ⟨u, rfl⟩ := ov3
  exact setitem_ok (s := { s with heap := h3, toks := tk3 }) S3 ha ov h0 h1 hl fun h4 S4 => kk .next _ _ _ _ _ hr rfl S4
/-- pool[1] += n -/
theorem ex_augitem {o e i : PySem.Expr} {tp pos : Pos} {a : Addr} {k x y : Int} {xs : List AV} {R : AF → Rho → AH → Prop} (O : EvP prog w K C ρ H o (.ref a)) (I : EvP prog w K C ρ H i (.int k)) (X : EvP prog w K C ρ H e (.int y)) (ha : H a = some (.list xs))
    (g : xs[k.toNat]? = some (.int x)) (h0 : 0 ≤ k) (h1 : k < 2 ^ 63) (r : R .next ρ (H.set a (.list (xs.set k.toNat (.int (x + y)))))) (hi : ∀ ov iv new, augStore i ov iv new = (do holding [new, ov, iv] (setItem ov iv new); release [new, ov, iv] []; pure .next) := by intros; rfl) :
    Ex1 prog w K C ρ H (.AugAssign (.Subscript o i tp) .Add e pos) R := by
  intro s Q E S kk
  refine wpAny_AugAssign_SubscriptAny (O s _ E S fun v h2 tk2 ov2 S2 => ?_) hi
  cases ov2
  refine I { s with heap := h2, toks := tk2 } _ E S2 fun v3 h3 tk3 ov3 S3 => ?_
  obtain ⟨u, rfl⟩ := ov3
  obtain ⟨vs, il, o⟩ := S3.isList ha
  obtain ⟨v4, hv4, ov4⟩ := o.get g
  obtain ⟨u4, rfl⟩ := ov4
  refine wpAny_getItem_list il h0 h1 (by simpa using hv4) ?_
  refine X { s with heap := h3, toks := tk3 } _ E S3 fun v5 h5 tk5 ov5 S5 => ?_
  obtain ⟨u5, rfl⟩ := ov5
  refine iadd_int ?_
  have hl := (List.getElem?_eq_some_iff.mp g).1
  exact setitem_ok (s := { s with heap := h5, toks := tk5 + 1 }) S5 ha (av := .int (x + y)) ⟨_, rfl⟩ h0 h1 hl fun h6 S6 => kk .next _ _ _ _ _ r rfl S6
/-- self.counter += n -/
theorem ex_augattr {o e : PySem.Expr} {name : Str} {tp pos : Pos} {a Cc d : Addr} {fs : List (Str × AV)} {x y : Int} {R : AF → Rho → AH → Prop} (O : EvP prog w K C ρ H o (.ref a)) (X : EvP prog w K C ρ H e (.int y)) (ha : H a = some (.inst Cc d fs)) (l : lookF name fs = some (.int x))
    (ok : attrOk K Cc name = true) (ok2 : setOk K Cc name = true) (hz : fs.length < 1000) (r : R .next ρ (H.set a (.inst Cc d (putF name (.int (x + y)) fs)))) : Ex1 prog w K C ρ H (.AugAssign (.Attribute o name tp) .Add e pos) R := by
  intro s Q E S kk
  refine wpAny_AugAssign_AttributeAny (O s _ E S fun v h2 tk2 ov2 S2 => ?_)
  cases ov2
  refine getattr_own (s := { s with heap := h2, toks := tk2 }) S2 ha l ok fun v3 tk3 ov3 => ?_
  obtain ⟨u, rfl⟩ := ov3
  refine X { s with heap := h2, toks := tk3 } _ E S2 fun v5 h5 tk5 ov5 S5 => ?_
  obtain ⟨u5, rfl⟩ := ov5
  refine iadd_int ?_
  exact setattr_ (s := { s with heap := h5, toks := tk5 + 1 }) S5 ha ok2 (av := .int (x + y)) ⟨_, rfl⟩ hz fun h6 tk6 S6 => kk .next _ _ _ _ _ r rfl S6
/-- rest //= n -/
theorem ex_augdiv {x : Str} {xp pos : Pos} {e : PySem.Expr} {a b : Int} {R : AF → Rho → AH → Prop} (i : Nat) (n : C.scope.names[i]? = some (x, .local)) (rx : ρ i = some (.int a)) (X : EvP prog w K C ρ H e (.int b)) (hb : b ≠ 0) (hp : ∀ a, Builtin.divisionGoesByPylong a b = false)
    (r : R .next (ρ.set i (.int (a.fdiv b))) H) : Ex1 prog w K C ρ H (.AugAssign (.Name x xp) .FloorDiv e pos) R := by
  intro s Q E S kk
  obtain ⟨m, news, F, N, fo, ab⟩ := S.at_
  obtain ⟨v, hv, o⟩ := fo i x _ n rx
  obtain ⟨t, rfl⟩ := o
  refine wpAny_AugAssign_Name (wpAny_loadName_local S.ok.kind (lookup_of_names S.ok.nd n) F.ns hv ?_)
  refine X s _ E S fun v5 h5 tk5 ov5 S5 => ?_
  obtain ⟨u5, rfl⟩ := ov5
  refine ifloordiv_int hb ?_ (.inl (hp a))
  obtain ⟨m5, news5, F5, N5, fo5, ab5⟩ := S5.at_
  refine storeX_L (s := { s with heap := h5, toks := tk5 + 1 }) F5 N5 (fun h6 F6 N6 => ?_) S5.ok.kind (lookup_of_names S5.ok.nd n)
  exact kk .next _ _ _ _ _ r rfl (S5.store (av := .int (a.fdiv b)) n ⟨_, rfl⟩ F6 N6 fo5 ab5)

/-- a, b = (two things) -/
theorem assign_two {x y : Str} {xp yp : Pos} {s : Shared} {av bv : AV} {v u : Value} {Q : Unit → Shared → Prop} {E : Value → Shared → Prop} (i j : Nat) (nx : C.scope.names[i]? = some (x, .local)) (ny : C.scope.names[j]? = some (y, .local)) (S : St w K C ρ H s.heap) (ov : av.ok v) (ou : bv.ok u)
    (q : ∀ h' tk, St w K C ((ρ.set i av).set j bv) H h' → Q () { s with heap := h', toks := tk }) :
    wpAny (model prog w) C.A (do holding [u] (assign (.Name x xp) C.env v); do holding [] (assign (.Name y yp) C.env u); pure ()) Q E s := by
  obtain ⟨m, news, F, N, fo, ab⟩ := S.at_
  refine wpAny_bind (wpAny_holding (wpAny_assign_Name (storeX_L F N (fun h4 F4 N4 => ?_) S.ok.kind (lookup_of_names S.ok.nd nx))))
  have S4 := S.store nx ov F4 N4 fo ab
  obtain ⟨m4, news4, F4', N4', fo4, ab4⟩ := S4.at_
  refine wpAny_bind (wpAny_holding (wpAny_assign_Name (storeX_L (s := { s with heap := h4, toks := s.toks + 1 }) F4' N4' (fun h5 F5 N5 => wpAny_pure ?_) S.ok.kind (lookup_of_names S.ok.nd ny))))
  exact q _ _ (S4.store ny ou F5 N5 fo4 ab4)
theorem ex_unpack {x y : Str} {xp yp tp pos : Pos} {c : Nat} {e : PySem.Expr} {P : AV → AH → Prop} {R : AF → Rho → AH → Prop} (i j : Nat) (nx : C.scope.names[i]? = some (x, .local)) (ny : C.scope.names[j]? = some (y, .local)) (X : EvG prog w K C ρ H e P)
    (r : ∀ av H', P av H' → ∃ t a b, av = .ref t ∧ H' t = some (.tup [a, b]) ∧ R .next ((ρ.set i a).set j b) H')
    (h1 : swapsWithSole [.Tuple [.Name x xp, .Name y yp] c tp] e pos.line C.env = pure false := by rfl) (h2 : swappedStores [.Tuple [.Name x xp, .Name y yp] c tp] e C.env = pure none := by rfl) :
    Ex1 prog w K C ρ H (.Assign [.Tuple [.Name x xp, .Name y yp] c tp] e pos) R := by
  intro s Q E S k
  refine Assign_Tuple (X s _ E S fun av H' v h' tk p ov S' => ?_) h1 h2
  obtain ⟨t, a, b, rfl, e, rr⟩ := r av H' p
  cases ov
  obtain ⟨vs, it, oo⟩ := S'.isTup e
  have hvs : ∃ v u, vs = #[v, u] ∧ a.ok v ∧ b.ok u := by
    cases hq : vs.toList with
    | nil => rw [hq] at oo; cases oo
    | cons v r =>
      rw [hq] at oo
      cases oo with | cons o1 o2 =>
      cases o2 with | cons o3 o4 =>
      cases o4
      exact ⟨_, _, by rw [← Array.toArray_toList (xs := vs), hq], o1, o3⟩
  obtain ⟨v, u, rfl, ov, ou⟩ := hvs
  refine assign_Tuple_tuple (s := { s with heap := h', toks := tk }) S'.ok.hh it rfl rfl fun h2 hx => ?_
  exact assign_two (s := { s with heap := h2, toks := tk }) i j nx ny (S'.ext hx) ov ou fun h3 tk3 S3 => k .next _ _ _ _ _ rr rfl S3

theorem Fields.getNone {P : Params} {fs : List (Str × AV)} {es : List DictEntry} {x : Str} (F : Fields P fs es) (e : lookF x fs = none) : getL x es = some none := by
  have : es.find? (·.key.isStr x) = none := by
    induction F with
    | nil => rfl
    | @cons y a' t v fs es o _ ih =>
      unfold lookF at e
      rw [List.find?_cons]
      show (match (y == x) with | true => _ | false => _) = none
      cases h : (y == x) with
      | true => rw [h] at e; cases e
      | false => rw [h] at e; exact ih e
  unfold getL
  rw [this]
  simp only [F.noRef]
  rfl

/-- o.m(..): a method of the object's class -/
theorem ev_meth_ {o e : PySem.Expr} {es : List PySem.Expr} {name : Str} {ap pos : Pos} {a Cc d f : Addr} {fs : List (Str × AV)} {need : Nat} {P1 : List AV → AH → Prop} {P : AV → AH → Prop}
    (hm : ∃ pl : Sem Bool, eval (.Call (.Attribute o name ap) (e :: es) [] pos) C.env = (do let ov ← eval o C.env; standAt ap.atName; let (f, first) ← holding [ov] (getMethod ov name pl); callWith pos f first (backTo pos (starEach (e :: es) C.env)) (backToKw pos (keywordEach [] C.env))))
    (X : EvP prog w K C ρ H o (.ref a)) (l : H a = some (.inst Cc d fs)) (ln : lookF name fs = none) (g : plainGet K Cc name = true ∧ findIn K (.ref Cc) name = some (some (.ref f)) ∧ isFn K (.ref f) = true ∧ keepIn K (.ref f) = true)
    (Y : EvL prog w K C ρ H pos (e :: es) P1) (Z : ∀ avs H1, P1 avs H1 → Fn prog w K f need (.ref a :: avs) H1 P) (hr : need + 2 ≤ C.r)
    (hpl : ((backTo pos (starEach es C.env)).any (·.1)) = false) (hst : starEach (e :: es) C.env = (false, eval e C.env) :: starEach es C.env) : EvG prog w K C ρ H (.Call (.Attribute o name ap) (e :: es) [] pos) P := by
  intro s Q E S k
  obtain ⟨pl, he⟩ := hm
  refine methodCall_KW (pl := pl) (X s _ E S fun v h1 tk1 ov S1 => ?_) he
  cases ov
  obtain ⟨m, news, F, N, fo, ab⟩ := S1.at_
  obtain ⟨es', n, hm1, hm2, Fs⟩ := ab a _ l
  refine method_inst (s := { s with heap := h1, toks := tk1 }) F S1.ok.kin (InstAt.of_news N hm1 hm2) g.1 g.2.1 g.2.2.1 (Fs.getNone ln) ?_
  refine callWith_K S1.ok.kin g.2.2.2 (Y { s with heap := h1, toks := tk1 } _ E S1 fun avs H1 vs h2 tk2 p1 o1 S2 => ⟨S2.kin, ?_⟩) hst hpl
  exact wpAny_call (Z avs H1 p1 C ρ C.A { s with heap := h2, toks := tk2 } _ (.ref a :: vs) trivial (AtCx.self S2.ok) hr S2 (.cons rfl o1) fun av H2 v h3 tk3 p2 o2 S3 => k av H2 v h3 tk3 p2 o2 S3)
theorem ev_meth {x : Str} {xp : Pos} {e : PySem.Expr} {es : List PySem.Expr} {name : Str} {ap pos : Pos} {a Cc d f : Addr} {fs : List (Str × AV)} {need : Nat} {P1 : List AV → AH → Prop} {P : AV → AH → Prop}
    (X : EvP prog w K C ρ H (.Name x xp) (.ref a)) (l : H a = some (.inst Cc d fs)) (ln : lookF name fs = none) (g : plainGet K Cc name = true ∧ findIn K (.ref Cc) name = some (some (.ref f)) ∧ isFn K (.ref f) = true ∧ keepIn K (.ref f) = true)
    (Y : EvL prog w K C ρ H pos (e :: es) P1) (Z : ∀ avs H1, P1 avs H1 → Fn prog w K f need (.ref a :: avs) H1 P) (hr : need + 2 ≤ C.r)
    (h1 : methodCallForm ((e :: es).length + 0) (backTo pos (starEach (e :: es) C.env)) (backToKw pos (keywordEach [] C.env)) = true := by rfl) (h2 : (ap.endLine == pos.line) = true := by rfl)
    (hpl : ((backTo pos (starEach es C.env)).any (·.1)) = false := by rfl) (hst : starEach (e :: es) C.env = (false, eval e C.env) :: starEach es C.env := by rfl) : EvG prog w K C ρ H (.Call (.Attribute (.Name x xp) name ap) (e :: es) [] pos) P :=
  ev_meth_ (meth_eq base_name h1 h2) X l ln g Y Z hr hpl hst

/-- C(..): a new object of a class of the text, by its __init__ -/
theorem new_ok {Cc f : Addr} {need : Nat} {avs : List AV} {vs : List Value} {P : AV → AH → Prop} {s : Shared} {Q E : Value → Shared → Prop} (S : St w K C ρ H s.heap) (g : makesIn K Cc = true ∧ findIn K (.ref Cc) "__init__" = some (some (.ref f)) ∧ isFn K (.ref f) = true) (o : Oks avs vs)
    (Y : ∀ x d, H x = none → H d = none → x ≠ d → Fn prog w K f need (.ref x :: avs) ((H.set d (.own x)).set x (.inst Cc d [])) (fun a H2 => a = .none ∧ P (.ref x) H2)) (hr : need + 2 ≤ C.r)
    (k : ∀ av H2 v h' tk, P av H2 → av.ok v → St w K C ρ H2 h' → Q v { s with heap := h', toks := tk }) : wpAny (model prog w) C.A (call (.ref Cc) vs) Q E s := by
  obtain ⟨m, news, F, N, fo, ab⟩ := S.at_
  refine call_cls F S.ok.kin N g.1 g.2.1 g.2.2 fun x dx h' F' N' hl1 hl2 => ?_
  have hx : H x = none := by
    cases q : H x with
    | none => rfl
    | some o =>
      obtain ⟨ob, e, r⟩ := S.live q
      have : ∃ p ∈ news, p.1 = x := by
        have a1 := ab x o q
        cases o with
        | list xs => obtain ⟨vs, n, hm, r⟩ := a1; exact ⟨_, hm, rfl⟩
        | tup xs => obtain ⟨vs, n, hm, r⟩ := a1; exact ⟨_, hm, rfl⟩
        | inst C d fs => obtain ⟨es, n, hm, h2, r⟩ := a1; exact ⟨_, hm, rfl⟩
        | own b => obtain ⟨o, hm⟩ := a1; exact ⟨_, hm, rfl⟩
        | raw o => exact ⟨_, a1, rfl⟩
        | dic o => exact ⟨_, a1, rfl⟩
      obtain ⟨p, hp, rfl⟩ := this
      exact absurd (Nat.lt_trans (hl1 p hp) hl2) (Nat.lt_irrefl _)
  have hd : H dx = none := by
    cases q : H dx with
    | none => rfl
    | some o =>
      have : ∃ p ∈ news, p.1 = dx := by
        have a1 := ab dx o q
        cases o with
        | list xs => obtain ⟨vs, n, hm, r⟩ := a1; exact ⟨_, hm, rfl⟩
        | tup xs => obtain ⟨vs, n, hm, r⟩ := a1; exact ⟨_, hm, rfl⟩
        | inst C d fs => obtain ⟨es, n, hm, h2, r⟩ := a1; exact ⟨_, hm, rfl⟩
        | own b => obtain ⟨o, hm⟩ := a1; exact ⟨_, hm, rfl⟩
        | raw o => exact ⟨_, a1, rfl⟩
        | dic o => exact ⟨_, a1, rfl⟩
      obtain ⟨p, hp, rfl⟩ := this
      exact absurd (hl1 p hp) (Nat.lt_irrefl _)
  have hne : x ≠ dx := Nat.ne_of_gt hl2
  have S' : St w K C ρ ((H.set dx (.own x)).set x (.inst Cc dx [])) h' := by
    refine ⟨S.ok, fun b C2 d2 fs2 e2 => ?_, m, _, F', N', fo, fun b o2 e2 => ?_⟩
    · unfold AH.set at e2 ⊢
      by_cases hb : b = x
      · rw [if_pos hb] at e2; cases e2; rw [if_neg (Ne.symm hne), if_pos rfl, hb]
      · rw [if_neg hb] at e2
        by_cases hb2 : b = dx
        · rw [if_pos hb2] at e2; cases e2
        · rw [if_neg hb2] at e2
          have hs := S.sep b C2 d2 fs2 e2
          rw [if_neg (fun q => by rw [q, hx] at hs; cases hs), if_neg (fun q => by rw [q, hd] at hs; cases hs)]; exact hs
    · unfold AH.set at e2
      by_cases hb : b = x
      · rw [if_pos hb] at e2; cases e2; rw [hb]; exact ⟨[], 0, .head _, .tail _ (.head _), .nil⟩
      · rw [if_neg hb] at e2
        by_cases hb2 : b = dx
        · rw [if_pos hb2] at e2; cases e2; rw [hb2]; exact ⟨_, .tail _ (.head _)⟩
        · rw [if_neg hb2] at e2; exact (ab b o2 e2).mono fun p hp => .tail _ (.tail _ hp)
  refine Y x dx hx hd hne C ρ _ { s with heap := h', toks := s.toks } _ (.ref x :: vs) trivial ⟨rfl, S.ok.hh, Nat.le_refl _, ?_⟩ hr S' (.cons rfl o) ?_
  · show C.A.units + Code.cUnits _ ≤ C.A.units + 4
    exact Nat.add_le_add_left (Nat.le_of_ble_eq_true rfl) _
  · rintro a H2 v h2 tk2 ⟨rfl, p⟩ oa S2
    cases oa
    exact ⟨rfl, k (.ref x) H2 (.ref x) h2 tk2 p rfl S2⟩
theorem ev_new {y : Str} {xp pos : Pos} {e : PySem.Expr} {es : List PySem.Expr} {Cc f : Addr} {need : Nat} {P1 : List AV → AH → Prop} {P : AV → AH → Prop} (i : Nat) (n : C.scope.names[i]? = some (y, .globalImplicit))
    (g0 : nsIn K mainGlobals y = some (some (.ref Cc)) ∧ keepIn K (.ref Cc) = true) (g : makesIn K Cc = true ∧ findIn K (.ref Cc) "__init__" = some (some (.ref f)) ∧ isFn K (.ref f) = true) (X : EvL prog w K C ρ H pos (e :: es) P1)
    (Y : ∀ avs H1, P1 avs H1 → ∀ x d, H1 x = none → H1 d = none → x ≠ d → Fn prog w K f need (.ref x :: avs) ((H1.set d (.own x)).set x (.inst Cc d [])) (fun a H2 => a = .none ∧ P (.ref x) H2)) (hr : need + 2 ≤ C.r)
    (hpl : ((backTo pos (starEach es C.env)).any (·.1)) = false := by rfl) (hst : starEach (e :: es) C.env = (false, eval e C.env) :: starEach es C.env := by rfl) : EvG prog w K C ρ H (.Call (.Name y xp) (e :: es) [] pos) P := by
  intro s Q E S k
  refine Call_ (name_of i n g0.1 S ?_) rfl
  refine callWith_K S.ok.kin g0.2 (X s _ E S fun avs H1 vs h1 tk1 p1 o1 S1 => ⟨S1.kin, ?_⟩) hst hpl
  exact new_ok (s := { s with heap := h1, toks := tk1 }) S1 g o1 (Y avs H1 p1) hr fun av H2 v h' tk p o S' => k av H2 v h' tk p o S'
theorem ev_new0 {y : Str} {xp pos : Pos} {Cc f : Addr} {need : Nat} {P : AV → AH → Prop} (i : Nat) (n : C.scope.names[i]? = some (y, .globalImplicit))
    (g0 : nsIn K mainGlobals y = some (some (.ref Cc)) ∧ keepIn K (.ref Cc) = true) (g : makesIn K Cc = true ∧ findIn K (.ref Cc) "__init__" = some (some (.ref f)) ∧ isFn K (.ref f) = true)
    (Y : ∀ x d, H x = none → H d = none → x ≠ d → Fn prog w K f need [.ref x] ((H.set d (.own x)).set x (.inst Cc d [])) (fun a H2 => a = .none ∧ P (.ref x) H2)) (hr : need + 2 ≤ C.r) : EvG prog w K C ρ H (.Call (.Name y xp) [] [] pos) P := by
  intro s Q E S k
  refine Call_ (name_of i n g0.1 S ?_) rfl
  exact callWith_K0 S.kin g0.2 (new_ok S g .nil Y hr k)
end Mine
namespace Mine
variable {prog : Program} {w : World} {K : Frag} {C : Cx} {ρ ρ' : Rho} {H H' : AH} {h h' : Heap}

theorem ev_call1 {x : Str} {v : Value} {xp pos : Pos} {e : PySem.Expr} {a : AV} {R : AV → AH → Prop} (T : String) (i : Nat) (n : C.scope.names[i]? = some (x, .globalImplicit)) (g : nsIn K mainGlobals x = some none) (b : bootBuiltins x = some v) (nn : x ≠ "__name__")
    (hv : v = .type T ∨ v = .builtin T) (X : EvP prog w K C ρ H e a)
    (c : ∀ (s : Shared) (Q E : Value → Shared → Prop) u, a.ok u → St w K C ρ H s.heap → (∀ r H' v h' tk, R r H' → r.ok v → St w K C ρ H' h' → Q v { s with heap := h', toks := tk }) → wpAny (model prog w) C.A (call v [u]) Q E s)
    (hst : starEach [e] C.env = [(false, eval e C.env)] := by rfl) : EvG prog w K C ρ H (.Call (.Name x xp) [e] [] pos) R := by
  intro s Q E S k
  refine Call_ (name_boot i n g b nn S ?_) rfl
  have fin : ∀ (avs : List AV) (H' : AH) (vs : List Value) (h' : Heap) (tk : Nat), avs = [a] ∧ H' = H → Oks avs vs → St w K C ρ H' h' → wpAny (model prog w) C.A (call v vs) Q E { s with heap := h', toks := tk } := by
    rintro avs H1 vs h1 tk1 ⟨rfl, rfl⟩ o1 S1
    cases o1 with | cons oa ob =>
    cases ob
    exact c { s with heap := h1, toks := tk1 } Q E _ oa S1 fun r H' v h' tk p o S' => k r H' v h' tk p o S'
  rcases hv with rfl | rfl
  · exact PyProof.Rows.callWith_type1 ((EvLP.cons X hst .nil).l (P := fun l h => l = [a] ∧ h = H) ⟨rfl, rfl⟩ s _ E S fin) hst rfl
  · exact PyProof.Rows.callWith_builtin1 ((EvLP.cons X hst .nil).l (P := fun l h => l = [a] ∧ h = H) ⟨rfl, rfl⟩ s _ E S fin) hst rfl

theorem ev_intc {xp pos : Pos} {e : PySem.Expr} {z : Int} (i : Nat) (n : C.scope.names[i]? = some (("int" : Str), NameKind.globalImplicit)) (g : nsIn K mainGlobals "int" = some none) (X : EvP prog w K C ρ H e (.int z)) (hst : starEach [e] C.env = [(false, eval e C.env)] := by rfl) :
    EvG prog w K C ρ H (.Call (.Name "int" xp) [e] [] pos) (fun a h => a = .int z ∧ h = H) :=
  ev_call1 "int" i n g PyProof.Rows.Boot.int (by decide) (.inl rfl) X (fun s Q E u o S k => by obtain ⟨t, rfl⟩ := o; exact PySem.call_int_int (k _ H _ s.heap s.toks ⟨rfl, rfl⟩ ⟨t, rfl⟩ S)) hst
theorem ev_absc {xp pos : Pos} {e : PySem.Expr} {z : Int} (i : Nat) (n : C.scope.names[i]? = some (("abs" : Str), NameKind.globalImplicit)) (g : nsIn K mainGlobals "abs" = some none) (X : EvP prog w K C ρ H e (.int z)) (hst : starEach [e] C.env = [(false, eval e C.env)] := by rfl) :
    EvG prog w K C ρ H (.Call (.Name "abs" xp) [e] [] pos) (fun a h => a = .int (if z < 0 then -z else z) ∧ h = H) :=
  ev_call1 "abs" i n g PyProof.Rows.Boot.abs (by decide) (.inr rfl) X (fun s Q E u o S k => by obtain ⟨t, rfl⟩ := o; exact call_abs_int fun u tk => k _ H _ s.heap tk ⟨rfl, rfl⟩ ⟨u, rfl⟩ S) hst
theorem ev_strc {xp pos : Pos} {e : PySem.Expr} {z : Int} (i : Nat) (n : C.scope.names[i]? = some (("str" : Str), NameKind.globalImplicit)) (g : nsIn K mainGlobals "str" = some none) (X : EvP prog w K C ρ H e (.int z)) (hz : z.natAbs.log2 < 1920) (hst : starEach [e] C.env = [(false, eval e C.env)] := by rfl) :
    EvG prog w K C ρ H (.Call (.Name "str" xp) [e] [] pos) (fun a h => a = .str (toString z) ∧ h = H) :=
  ev_call1 "str" i n g PyProof.Rows.Boot.str (by decide) (.inl rfl) X (fun s Q E u o S k => by obtain ⟨t, rfl⟩ := o; exact PySem.P.str_of_int hz (k _ H _ s.heap _ ⟨rfl, rfl⟩ ⟨_, rfl⟩ S)) hst
theorem ev_listc {xp pos : Pos} {e : PySem.Expr} {a : Addr} {xs : List AV} (i : Nat) (n : C.scope.names[i]? = some (("list" : Str), NameKind.globalImplicit)) (g : nsIn K mainGlobals "list" = some none) (X : EvP prog w K C ρ H e (.ref a)) (l : H a = some (.list xs)) (hz : xs.length ≤ 16777216) (hst : starEach [e] C.env = [(false, eval e C.env)] := by rfl) :
    EvG prog w K C ρ H (.Call (.Name "list" xp) [e] [] pos) (fun r H1 => ∃ b, r = .ref b ∧ H b = none ∧ H1 = H.set b (.list xs)) :=
  ev_call1 "list" i n g PyProof.Rows.Boot.list (by decide) (.inl rfl) X (fun s Q E u o S k => by
    cases o
    obtain ⟨m, news, F, N, fo, ab⟩ := S.at_
    obtain ⟨vs, c, hm, o⟩ := ab a _ l
    have hsz : vs.size = xs.length := by rw [← o.len]; simp
    refine list_copyK F N (News.isList N hm) (fun D c h' F' N' hD => ?_) (by rw [hsz]; exact Nat.le_trans hz sizeLine_big)
    have hn : H D = none := by
      cases q : H D with
      | none => rfl
      | some o =>
        have : ∃ p ∈ news, p.1 = D := by
          have a1 := ab D o q
          cases o with
          | list xs => obtain ⟨vs, n, hm, r⟩ := a1; exact ⟨_, hm, rfl⟩
          | tup xs => obtain ⟨vs, n, hm, r⟩ := a1; exact ⟨_, hm, rfl⟩
          | inst C d fs => obtain ⟨es, n, hm, h2, r⟩ := a1; exact ⟨_, hm, rfl⟩
          | own b => obtain ⟨o, hm⟩ := a1; exact ⟨_, hm, rfl⟩
          | raw o => exact ⟨_, a1, rfl⟩
          | dic o => exact ⟨_, a1, rfl⟩
        obtain ⟨p, hp, rfl⟩ := this
        exact absurd (hD p hp) (Nat.lt_irrefl _)
    exact k _ _ (.ref D) h' s.toks ⟨D, rfl, hn, rfl⟩ rfl (S.fresh hn F' N' fo ab ⟨vs, c, .head _, o⟩ fun _ _ _ q => by cases q)) hst

/-- the script's head, as a new list -/
theorem ev_slice40 {x : Str} {xp sp pos kp : Pos} {c : Nat} {l : Addr} {vs : List Value} {ns : List Int} (i : Nat) (n : C.scope.names[i]? = some (x, .local)) (r : ρ i = some (.ref l)) (hl : C.h₀.IsList l vs.toArray) (hi : IntsAre vs ns) (hz : ns.length ≤ 1048576) :
    EvG prog w K C ρ H (.Subscript (.Name x xp) (.Slice none (some (.Constant (.int 40) c kp)) none sp) pos) (fun a H1 => ∃ b, a = .ref b ∧ H b = none ∧ H1 = H.set b (.list ((ns.take 40).map .int))) := by
  intro s Q E S k
  refine wpAny_Subscript_list_slice (ev_local i n r s _ E S fun v h1 tk1 o1 S1 => ?_)
  cases o1
  refine wpAny_evalPart_none (wpAny_evalPart_some (wpAny_Constant_int ?_))
  obtain ⟨m, news, F, N, fo, ab⟩ := S1.at_
  have il : h1.IsList l vs.toArray := hl.at fun o e => F.keep l o e
  have hlen := hi.length
  refine ⟨l, vs.toArray, none, some 40, rfl, il, by rw [List.size_toArray, hlen]; exact Nat.le_trans (Nat.le_trans hz (by decide)) sizeLine_big, .none, .int .., ?_⟩
  have S2 := S1.kept (h' := h1.push { cls := .type "slice", data := .fields #[.none, .int 40 tk1, .none] }) fun _ _ e => Heap.get?_push_of_some _ e
  have hs2 : (h1.push { cls := .type "slice", data := .fields #[.none, .int 40 tk1, .none] }).objs.size = h1.objs.size + 1 := Heap.size_push ..
  have nn := S2.noneNew
  rw [hs2] at nn
  generalize h1.push { cls := .type "slice", data := .fields #[.none, .int 40 tk1, .none] } = h2 at S2 hs2 ⊢
  obtain ⟨m2, news2, F2, N2, fo2, ab2⟩ := S2.at_
  have N3 := N2.push F2 { cls := .type "list", data := .seq (slicePick vs.toArray none (some 40) none) }
  rw [hs2] at N3
  refine k (.ref (h1.objs.size + 1)) _ (.ref (h1.objs.size + 1)) _ _ ⟨h1.objs.size + 1, rfl, nn, rfl⟩ rfl (S2.fresh nn (F2.push _) N3 fo2 ab2 ⟨slicePick vs.toArray none (some 40) none, 0, .head _, ?_⟩ fun _ _ _ q => by cases q)
  have hp : slicePick vs.toArray none (some 40) none = (vs.take 40).toArray := by
    by_cases h40 : 40 ≤ vs.length
    · have := slicePick_upto vs.toArray 40 (by simpa using h40); simpa using this
    · have e1 : vs.take 40 = vs := List.take_of_length_le (by omega)
      have e2 := slicePick_upto vs.toArray vs.length (by simp)
      rw [e1]
      unfold slicePick at e2 ⊢
      have : sliceBounds none (some 40) none vs.toArray.size = sliceBounds none (some ((vs.length : Nat) : Int)) none vs.toArray.size := by
        unfold sliceBounds
        simp only [List.size_toArray]
        simp
        omega
      first
        | (rw [this]; rw [e2]; simp)
        | (simp only [this]; rw [e2]; simp)
  rw [hp]
  have : ∀ {vs : List Value} {ns : List Int}, IntsAre vs ns → ∀ k, Oks ((ns.take k).map .int) (vs.take k) := by
    intro vs ns hi
    induction hi with
    | nil => intro k; simp; exact .nil
    | cons j t h ih =>
      intro k
      cases k with
      | zero => simp; exact .nil
      | succ k => simp only [List.take_succ_cons, List.map_cons]; exact .cons ⟨t, rfl⟩ (ih k)
  exact this hi 40
end Mine
namespace Mine
variable {prog : Program} {w : World} {K : Frag} {C : Cx} {ρ ρ' : Rho} {H H' : AH} {h h' : Heap}

/-- a list that no one turns any more: its very object -/
def RawList (H : AH) (a : Addr) (xs : List AV) : Prop := ∃ vs n, H a = some (.raw (listOf vs n)) ∧ Oks xs vs.toList
theorem RawList.isList {a : Addr} {xs : List AV} (r : RawList H a xs) (S : St w K C ρ H h) : ∃ vs, h.IsList a vs ∧ Oks xs vs.toList := by
  obtain ⟨vs, n, e, o⟩ := r
  obtain ⟨m, news, F, N, fo, ab⟩ := S.at_
  exact ⟨vs, News.isList N (ab a _ e), o⟩
theorem St.freeze {a : Addr} {xs : List AV} (S : St w K C ρ H h) (e : H a = some (.list xs)) : ∃ vs n, Oks xs vs.toList ∧ St w K C ρ (H.set a (.raw (listOf vs n))) h := by
  obtain ⟨m, news, F, N, fo, ab⟩ := S.at_
  obtain ⟨vs, n, hm, o⟩ := ab a _ e
  refine ⟨vs, n, o, S.ok, fun b Cc d fs eb => ?_, m, news, F, N, fo, fun b o eb => ?_⟩
  · unfold AH.set at eb ⊢
    by_cases hb : b = a
    · rw [if_pos hb] at eb; cases eb
    · rw [if_neg hb] at eb
      have hd := S.sep b Cc d fs eb
      rw [if_neg]; exact hd
      intro q; rw [q, e] at hd; cases hd
  · unfold AH.set at eb
    by_cases hb : b = a
    · rw [if_pos hb] at eb; cases eb; rw [hb]; exact hm
    · rw [if_neg hb] at eb; exact ab b o eb
/-- len of such a list -/
theorem ev_lenR {xp pos : Pos} {e : PySem.Expr} {a : Addr} {xs : List AV} (i : Nat) (n : C.scope.names[i]? = some (("len" : Str), NameKind.globalImplicit)) (g : nsIn K mainGlobals "len" = some none)
    (X : EvP prog w K C ρ H e (.ref a)) (l : RawList H a xs) (hz : xs.length < 2 ^ 62) (hst : starEach [e] C.env = [(false, eval e C.env)] := by rfl) : EvP prog w K C ρ H (.Call (.Name "len" xp) [e] [] pos) (.int xs.length) := by
  intro s Q E S k
  refine ev_call1 (R := fun a h => a = .int xs.length ∧ h = H) "len" i n g PyProof.Rows.Boot.len (by decide) (.inr rfl) X (fun s Q E u o S k => ?_) hst s Q E S ?_
  · cases o
    obtain ⟨vs, il, ov⟩ := l.isList S
    have hs : vs.size = xs.length := by rw [← ov.len]; simp
    refine PySem.Calls.call_len_list il (by rw [hs]; omega) ?_
    rw [hs]; exact k _ H _ s.heap _ ⟨rfl, rfl⟩ ⟨_, rfl⟩ S
  · rintro a H' v h' tk ⟨rfl, rfl⟩ o S'
    exact k v h' tk o S'

theorem St.more (S : St w K C ρ H h) {fp : List Addr} (fresh : ∀ b ∈ fp, H b = none ∧ b ≠ C.L ∧ C.h₀.get? b = none) (live : ∀ b ∈ fp, ∃ o, h.get? b = some o) : St w K C ρ (H.anew fp h) h := by
  obtain ⟨m, news, F, N, fo, ab⟩ := S.at_
  refine ⟨S.ok, fun a Cc d fs e => ?_, m, (fp.filterMap fun b => (h.get? b).map fun o => (b, o)) ++ news, F, ?_, fo, ?_⟩
  · unfold AH.anew at e ⊢
    by_cases hb : a ∈ fp
    · rw [if_pos hb] at e; cases q : h.get? a with
      | none => rw [q] at e; cases e
      | some o => rw [q] at e; cases e
    · rw [if_neg hb] at e
      have hd := S.sep a Cc d fs e
      rw [if_neg]; exact hd
      intro q; rw [(fresh d q).1] at hd; cases hd
  · intro p hp
    rcases List.mem_append.mp hp with hp | hp
    · obtain ⟨b, hb, e⟩ := List.mem_filterMap.mp hp
      cases q : h.get? b with
      | none => rw [q] at e; cases e
      | some o => rw [q] at e; cases e; exact ⟨q, (fresh b hb).2⟩
    · exact N p hp
  · intro b o e
    unfold AH.anew at e
    by_cases hb : b ∈ fp
    · rw [if_pos hb] at e
      cases q : h.get? b with
      | none => rw [q] at e; cases e
      | some ob => rw [q] at e; cases e; exact List.mem_append_left _ (List.mem_filterMap.mpr ⟨b, hb, by rw [q]; rfl⟩)
    · rw [if_neg hb] at e
      exact (ab b o e).mono fun p hp => List.mem_append_right _ hp

/-- for a, b in zip(xs, ys) -/
theorem ex_forzip {x y : Str} {xp yp tp zp cp pos : Pos} {c : Nat} {e1 e2 : PySem.Expr} {body : List Stmt} {l1 l2 : Addr} {xs ys : List AV} {R : AF → Rho → AH → Prop} (i j iz : Nat) (nx : C.scope.names[i]? = some (x, .local)) (ny : C.scope.names[j]? = some (y, .local))
    (nz : C.scope.names[iz]? = some (("zip" : Str), NameKind.globalImplicit)) (g : nsIn K mainGlobals "zip" = some none) (X : EvLP prog w K C ρ H [e1, e2] [.ref l1, .ref l2]) (r1 : RawList H l1 xs) (r2 : RawList H l2 ys) (J : Nat → Rho → AH → Prop) (j0 : J 0 ρ H) (stab : ∀ i r a b, Loc H a b → J i r a → J i r b)
    (turn : ∀ k r a u v, xs[k]? = some u → ys[k]? = some v → J k r a → Exs prog w K C ((r.set i u).set j v) a body (LoopR R (J (k + 1)) a)) (done : ∀ r a, J (min xs.length ys.length) r a → R .next r a)
    (hst : starEach [e1, e2] C.env = (false, eval e1 C.env) :: starEach [e2] C.env := by rfl) (hpl : ((backTo cp (starEach [e2] C.env)).any (·.1)) = false := by rfl)
    (hs : ∀ x, foldedSetIterable (.Call (.Name "zip" zp) [e1, e2] [] cp) C.env x = pure x := by intro _; rfl) :
    Ex1 prog w K C ρ H (.For (.Tuple [.Name x xp, .Name y yp] c tp) (.Call (.Name "zip" zp) [e1, e2] [] cp) body [] pos) R := by
  intro s Q E S k
  refine wpAny_mono (E := fun _ _ => False) (Q := Q) ?_ (fun _ _ q => q) (fun _ _ q => q.elim)
  refine wpAny_For ?_ hs
  refine Call_ (name_boot iz nz g PyProof.Rows.Boot.zip (by decide) S ?_) rfl
  refine PyProof.Rows.callWith_type1 (X.l (P := fun l h => l = [.ref l1, .ref l2] ∧ h = H) ⟨rfl, rfl⟩ s _ _ S ?_) hst hpl
  rintro avs Hx vs h1 tk1 ⟨rfl, rfl⟩ o1 S1
  cases o1 with | cons oa ob =>
  cases ob with | cons ob oc =>
  cases oc; cases oa; cases ob
  obtain ⟨vx, n1, ex, ox⟩ := r1
  obtain ⟨vy, n2, ey, oy⟩ := r2
  have ilx : h1.IsList l1 vx := by obtain ⟨m, news, F, N, fo, ab⟩ := S1.at_; exact News.isList N (ab l1 _ ex)
  have ily : h1.IsList l2 vy := by obtain ⟨m, news, F, N, fo, ab⟩ := S1.at_; exact News.isList N (ab l2 _ ey)
  have sx : vx.size = xs.length := by rw [← ox.len]; simp
  have sy : vy.size = ys.length := by rw [← oy.len]; simp
  refine PySem.call_zip_2 (s := { s with heap := h1, toks := tk1 }) ilx ily fun h2 z1 z2 z3 z4 z5 hsz kept => ?_
  refine PySem.wpAny_pyIter_zip z1 ?_
  have S2 := S1.kept kept
  have ltx : l1 < h1.objs.size := by obtain ⟨o, e, _⟩ := ilx; exact Heap.lt_size e
  have lty : l2 < h1.objs.size := by obtain ⟨o, e, _⟩ := ily; exact Heap.lt_size e
  have Lt : C.L < h1.objs.size := by obtain ⟨m, news, F, N, fo, ab⟩ := S1.at_; exact F.ns.lt
  have bounds : ∀ b, h1.objs.size ≤ b → Hx b = none ∧ b ≠ C.L ∧ C.h₀.get? b = none := fun b hb => by
    refine ⟨?_, fun q => absurd Lt (Nat.not_lt.mpr (q ▸ hb)), ?_⟩
    · cases q : Hx b with
      | none => rfl
      | some o => obtain ⟨ob, e, _⟩ := S1.live q; exact absurd (Heap.lt_size e) (Nat.not_lt.mpr hb)
    · cases q : C.h₀.get? b with
      | none => rfl
      | some o =>
        obtain ⟨m, news, F, N, fo, ab⟩ := S1.at_
        exact absurd (Heap.lt_size (F.keep b o q)) (Nat.not_lt.mpr hb)
  replace z1 : IsZip h2 (h1.objs.size + 4) (h1.objs.size + 2) (h1.objs.size + 3) .none := z1
  replace z2 : IsPair h2 (h1.objs.size + 2) (.ref h1.objs.size) (.ref (h1.objs.size + 1)) := z2
  replace z3 : IsPair h2 (h1.objs.size + 3) .none .none := z3
  replace z4 : h2.IsListIter h1.objs.size l1 0 := z4
  replace z5 : h2.IsListIter (h1.objs.size + 1) l2 0 := z5
  show codeAny _ _ (.forLoop _ (.ref (h1.objs.size + 4)) _ _ _) _ _
  clear hsz
  generalize hp : h1.objs.size = p at z1 z2 z3 z4 z5 ltx lty bounds Lt ⊢
  have memfp' : ∀ b : Nat, b ∈ [p + 4, p + 2, p + 3, p, p + 1] → p ≤ b := fun b hb => by simp at hb; omega
  have subfp' : ∀ b : Nat, b ∈ [p + 4, p + 3, p, p + 1] → b ∈ [p + 4, p + 2, p + 3, p, p + 1] := fun b hb => by simp at hb ⊢; omega
  have DD : ∀ x y : Nat, x < p → y < p → ZipApart (p + 4) (p + 2) (p + 3) p (p + 1) x y := fun x y hx hy => by constructor <;> exact neN (by omega)
  let fp : List Addr := [p + 4, p + 2, p + 3, p, p + 1]
  have memfp : ∀ b ∈ fp, p ≤ b := memfp'
  have live2 : ∀ b ∈ fp, ∃ o, h2.get? b = some o := fun b hb => by
    simp [fp] at hb
    rcases hb with rfl | rfl | rfl | rfl | rfl
    · exact ⟨_, z1⟩
    · exact ⟨_, z2⟩
    · exact ⟨_, z3⟩
    · obtain ⟨o, e, _⟩ := z4; exact ⟨o, e⟩
    · obtain ⟨o, e, _⟩ := z5; exact ⟨o, e⟩
  have f0 : ∀ b ∈ fp, Hx b = none := fun b hb => (bounds b (memfp b hb)).1
  have S3 := S2.more (fp := fp) (fun b hb => bounds b (memfp b hb)) live2
  have raw3 := anew_raw (H := Hx) live2
  have hLf : C.L ∉ fp := fun q => absurd Lt (Nat.not_lt.mpr (memfp _ q))
  have D : ZipApart (p + 4) (p + 2) (p + 3) p (p + 1) l1 l2 := DD l1 l2 ltx lty
  have W := WalksT.zip2 (prog := prog) (w := w) (A := C.A) S.ok.hh _ _ _ _ _ _ _ D vx vy
  have anewL : ∀ (a : AH) (h : Heap) b, b < p → a.anew fp h b = a b := fun a h b hb => by
    unfold AH.anew; rw [if_neg]; intro q; exact absurd hb (Nat.not_lt.mpr (memfp b q))
  refine codeAny_forLoop_any
    (fun m s' => ∃ h tk r a k, s' = { s with heap := h, toks := tk } ∧ (IsZip h (p + 4) (p + 2) (p + 3) .none ∧ IsPair h (p + 2) (.ref p) (.ref (p + 1)) ∧ (∃ a b, IsPair h (p + 3) a b) ∧ h.IsListIter p l1 k ∧ h.IsListIter (p + 1) l2 k ∧ h.IsList l1 vx ∧ h.IsList l2 vy) ∧
      St w K C r a h ∧ (∀ b ∈ fp, ∃ o, a b = some (.raw o)) ∧ a l1 = some (.raw (listOf vx n1)) ∧ a l2 = some (.raw (listOf vy n2)) ∧ J k r a ∧ k ≤ min vx.size vy.size ∧ m = min vx.size vy.size + 1 - k) ?_ (min vx.size vy.size + 1)
    ⟨h2, tk1, ρ, _, 0, rfl, ⟨z1, z2, ⟨_, _, z3⟩, z4, z5, ilx.at fun o e => kept _ o e, ily.at fun o e => kept _ o e⟩, S3, raw3, (anewL _ _ _ ltx).trans ex, (anewL _ _ _ lty).trans ey, ?_, Nat.zero_le _, rfl⟩
  · rintro m s' ⟨h4, tk4, r, a, kk, rfl, st4, S4, raw4, ex4, ey4, j4, hk, rfl⟩
    by_cases hlt : kk < min vx.size vy.size
    · refine W.item kk _ _ _ hlt st4 fun T vals h5 tk5 hPt _ hT hMid kept5 => ?_
      obtain ⟨u, v, hu, hv, rfl⟩ := hPt
      refine W.go _ c tp kk T _ _ _ hMid fun h6 st6 kept6 => ?_
      have ht6 : h6.IsTuple T #[u, v] := hT.at fun o e => kept6 T o (W.apart kk T h5 hMid) e
      refine PySem.wpAny_assign_Tuple S4.ok.hh ht6 rfl rfl fun h7 hx7 => ?_
      replace hx7 : Heap.ExtBut h6.objs.size h6 h7 := hx7
      have up7 : ∀ b o, h6.get? b = some o → h7.get? b = some o := fun b o x => hx7 b o (Nat.ne_of_lt (Heap.lt_size x)) x
      have live6 : ∀ b ∈ fp, ∃ o, h6.get? b = some o := fun b hb => by
        obtain ⟨q1, q2, ⟨_, _, q3⟩, q4, q5, _⟩ := st6
        simp [fp] at hb
        rcases hb with rfl | rfl | rfl | rfl | rfl
        · exact ⟨_, q1⟩
        · exact ⟨_, q2⟩
        · exact ⟨_, q3⟩
        · obtain ⟨o, e, _⟩ := q4; exact ⟨o, e⟩
        · obtain ⟨o, e, _⟩ := q5; exact ⟨o, e⟩
      have S7 := (S4.anew (fp := fp) (wr := [p + 4, p + 3, p, p + 1]) raw4 subfp' (fun b o hb e => kept6 b o hb (kept5 b o hb e)) live6).kept up7
      have raw7 := anew_raw (H := a) live6
      have j7 := stab kk r a _ (anew_loc (h := h6) f0 raw4) j4
      have hvu : vx.toList[kk]? = some u := by simpa using hu
      have hvv : vy.toList[kk]? = some v := by simpa using hv
      obtain ⟨au, hau, ou⟩ : ∃ au, xs[kk]? = some au ∧ au.ok u := by
        have hi := (List.getElem?_eq_some_iff.mp hvu).1
        rw [ox.len] at hi
        obtain ⟨v', hv', o'⟩ := ox.get (List.getElem?_eq_getElem hi)
        rw [hvu] at hv'; cases hv'; exact ⟨_, List.getElem?_eq_getElem hi, o'⟩
      obtain ⟨av, hav, ov⟩ : ∃ av, ys[kk]? = some av ∧ av.ok v := by
        have hi := (List.getElem?_eq_some_iff.mp hvv).1
        rw [oy.len] at hi
        obtain ⟨v', hv', o'⟩ := oy.get (List.getElem?_eq_getElem hi)
        rw [hvv] at hv'; cases hv'; exact ⟨_, List.getElem?_eq_getElem hi, o'⟩
      refine assign_two (s := { s with heap := h7, toks := _ }) i j nx ny S7 ou ov fun h8 tk8 S8 => ?_
      have keep8 : ∀ b o, (a.anew fp h6) b = some (.raw o) → h6.get? b = some o → h8.get? b = some o := fun b o e e6 => by
        obtain ⟨m8, news8, F8, N8, fo8, ab8⟩ := S8.at_
        exact (N8 _ (ab8 b _ e)).1
      have ex8 : (a.anew fp h6) l1 = some (.raw (listOf vx n1)) := (anewL _ _ _ ltx).trans ex4
      have ey8 : (a.anew fp h6) l2 = some (.raw (listOf vy n2)) := (anewL _ _ _ lty).trans ey4
      refine turn kk r _ au av hau hav j7 { s with heap := h8, toks := tk8 } _ _ S8 ?_
      intro af ρ9 H9 f h9 tk9 q9 of9 S9
      have fin : J (kk + 1) ρ9 H9 ∧ KR (a.anew fp h6) H9 → ∃ m, m < min vx.size vy.size + 1 - kk ∧ ∃ h tk r a k, ({ s with heap := h9, toks := tk9 } : Shared) = { s with heap := h, toks := tk } ∧ (IsZip h (p + 4) (p + 2) (p + 3) .none ∧ IsPair h (p + 2) (.ref p) (.ref (p + 1)) ∧ (∃ a b, IsPair h (p + 3) a b) ∧ h.IsListIter p l1 k ∧ h.IsListIter (p + 1) l2 k ∧ h.IsList l1 vx ∧ h.IsList l2 vy) ∧
          St w K C r a h ∧ (∀ b ∈ fp, ∃ o, a b = some (.raw o)) ∧ a l1 = some (.raw (listOf vx n1)) ∧ a l2 = some (.raw (listOf vy n2)) ∧ J k r a ∧ k ≤ min vx.size vy.size ∧ m = min vx.size vy.size + 1 - k := by
        rintro ⟨j9, kr⟩
        have same : ∀ b ∈ [p + 4, p + 2, p + 3, p, p + 1, l1, l2], ∀ o, h6.get? b = some o → h9.get? b = some o := fun b hb o e => by
          have hraw : ∃ o', (a.anew fp h6) b = some (.raw o') := by
            simp only [List.mem_cons, List.not_mem_nil, or_false] at hb
            rcases hb with rfl | rfl | rfl | rfl | rfl | rfl | rfl
            · exact raw7 _ (by simp [fp])
            · exact raw7 _ (by simp [fp])
            · exact raw7 _ (by simp [fp])
            · exact raw7 _ (by simp [fp])
            · exact raw7 _ (by simp [fp])
            · exact ⟨_, ex8⟩
            · exact ⟨_, ey8⟩
          obtain ⟨o', e'⟩ := hraw
          obtain ⟨m7, news7, F7, N7, fo7, ab7⟩ := S7.at_
          obtain ⟨m9, news9, F9, N9, fo9, ab9⟩ := S9.at_
          have g7 : h7.get? b = some o' := (N7 _ (ab7 b _ e')).1
          have g9 : h9.get? b = some o' := (N9 _ (ab9 b _ (kr b o' e'))).1
          have := up7 b o e
          rw [g7] at this; cases this; exact g9
        refine ⟨min vx.size vy.size + 1 - (kk + 1), by omega, h9, tk9, ρ9, H9, kk + 1, rfl, W.frame _ _ _ st6 same, S9, fun b hb => ?_, kr _ _ ex8, kr _ _ ey8, j9, hlt, rfl⟩
        obtain ⟨o, e⟩ := raw7 b hb; exact ⟨o, kr b o e⟩
      cases af with
      | next => cases of9; exact fin q9
      | cont => cases of9; exact fin q9
      | brk => cases of9; exact k .next ρ9 H9 .next h9 tk9 q9 rfl S9
      | ret v => obtain ⟨vv, rfl, ov⟩ := of9; exact k (.ret v) ρ9 H9 _ h9 tk9 q9 ⟨vv, rfl, ov⟩ S9
    · have hin : kk = min vx.size vy.size := by omega
      subst hin
      refine W.done _ _ _ st4 fun h5 tk5 kept5 => wpAny_execs_nil ?_
      have S5 := S4.but (fp := fp) (wr := [p + 4, p + 3, p, p + 1]) raw4 subfp' kept5
      refine k .next r (a.but fp) .next h5 tk5 (done _ _ ?_) rfl S5
      rw [sx, sy] at j4
      exact stab _ r a _ (but_loc f0 raw4) j4
  · refine stab 0 ρ Hx _ (fun b => ?_) j0
    unfold AH.anew
    by_cases hb : b ∈ fp
    · rw [if_pos hb]
      refine .inr ⟨f0 b hb, .inl (f0 b hb), ?_⟩
      obtain ⟨o, e⟩ := live2 b hb
      exact .inr ⟨o, by rw [e]; rfl⟩
    · rw [if_neg hb]; exact .inl rfl

/-- a dict whose keys are tuples of two texts; what it holds is not asked -/
def KnownObj (prog : Program) (w : World) (o : Obj) (xs : List (List Str × Addr × Value)) : Prop :=
  o.ExactDict ∧ (∃ es ep, o.data = .dict es ep ∧ es.toList = xs.map (entryOfKey (tupleKind (PySem.strKind prog w)))) ∧ (xs.map (·.1)).Nodup
def Known (prog : Program) (w : World) (H : AH) (a : Addr) (n : Nat) : Prop :=
  ∃ o xs, H a = some (.dic o) ∧ KnownObj prog w o xs ∧ xs.length ≤ n ∧ ∀ x ∈ xs, H x.2.1 = some (.tup (x.1.map .str))

theorem items_of : ∀ {ks : List Str} {vs : List Value}, Oks (ks.map .str) vs → ItemsAre (PySem.strKind prog w) ks vs
  | [], _, o => by cases o; exact .nil
  | k :: ks, _, o => by
    cases o with | cons a b =>
    obtain ⟨t, rfl⟩ := a
    exact .cons (by show Value.isStrOf k (.str k t) = true; simp [Value.isStrOf]) (items_of b)
theorem tupkey_of {a : Addr} {ks : List Str} (S : St w K C ρ H h) (e : H a = some (.tup (ks.map .str))) : IsTupleKey (PySem.strKind prog w) h ks a := by
  obtain ⟨m, news, F, N, fo, ab⟩ := S.at_
  obtain ⟨vs, n, hm, o⟩ := ab a _ e
  exact ⟨_, vs, n, (N _ hm).1, rfl, rfl, items_of o⟩
theorem setknown_ok {s : Shared} {d a : Addr} {ks : List Str} {v : Value} {n : Nat} {Q : Unit → Shared → Prop} {E : Value → Shared → Prop} (S : St w K C ρ H s.heap) (kn : Known prog w H d n) (e : H a = some (.tup (ks.map .str))) (hz : n ≤ 1000000)
    (k : ∀ o h' tk, Known prog w (H.set d (.dic o)) d (n + 1) → St w K C ρ (H.set d (.dic o)) h' → Q () { s with heap := h', toks := tk }) : wpAny (model prog w) C.A (setItem (.ref d) (.ref a) v) Q E s := by
  obtain ⟨o, xs, hd, ⟨hex, ⟨es, ep, hda, hes⟩, hnd⟩, hlen, hkeys⟩ := kn
  obtain ⟨m, news, F, N, fo, ab⟩ := S.at_
  have hm := ab d _ hd
  have z := N _ hm
  have hu := S.ok.units
  refine wpAny_setItem_heap (knd := tupleKind (PySem.strKind prog w)) (k := ks) (xs := xs) (hsz := Nat.le_trans (Nat.le_trans hlen hz) (Nat.le_trans (by decide) sizeLine_big)) (tupleKind_room_in1 (by omega)) (tupkey_of S e) ⟨o, es, ep, z.1, hex, hda, hes, fun x hx => tupkey_of S (hkeys x hx), hnd⟩ fun h' hd' hs => ?_
  obtain ⟨o', es', ep', ho', hex', hda', hes', _, hnd'⟩ := hd'
  have kept : ∀ p ∈ (news.filter fun p => decide (p.1 ≠ d)), h'.get? p.1 = some p.2 := fun p hp => by
    obtain ⟨hp1, hp2⟩ := List.mem_filter.mp hp
    exact (hs.2 p.1 (by simpa using hp2)).trans (N p hp1).1
  have hkd : ∀ b xs', H b = some (.tup xs') → b ≠ d := fun b xs' q1 q2 => by rw [q2, hd] at q1; cases q1
  refine k o' h' _ ⟨o', _, AH.set_self, ⟨hex', ⟨es', ep', hda', hes'⟩, hnd'⟩, ?_, ?_⟩ ?_
  · unfold storedH
    split
    · rw [List.length_map]; omega
    · rw [List.length_append]; simp; omega
  · intro x hx
    unfold storedH at hx
    split at hx
    · obtain ⟨y, hy, rfl⟩ := List.mem_map.mp hx
      have q := hkeys y hy
      have : (putAt ks v y).1 = y.1 ∧ (putAt ks v y).2.1 = y.2.1 := by unfold putAt; split <;> exact ⟨rfl, rfl⟩
      rw [this.1, this.2, AH.set_ne (hkd _ _ q)]; exact q
    · rcases List.mem_append.mp hx with hy | hy
      · have q := hkeys x hy
        rw [AH.set_ne (hkd _ _ q)]; exact q
      · rw [List.mem_singleton.mp hy]
        show H.set d (.dic o') a = _
        rw [AH.set_ne (hkd _ _ e)]; exact e
  · refine S.replace (ob2 := o') hd (fun _ _ _ q => by cases q) (fun _ q => by cases q) (fun _ _ _ q => by cases q) ab (F.change hs z.2.1 z.2.2) ?_ fo (.head _)
    intro p hp
    rcases List.mem_cons.mp hp with rfl | hp
    · exact ⟨ho', z.2⟩
    · exact ⟨kept p hp, (N p (List.mem_filter.mp hp).1).2⟩

/-- a new empty dict -/
theorem ev_dict0 {pos : Pos} : EvG prog w K C ρ H (.Dict [] [] pos) (fun a H1 => ∃ d o, a = .ref d ∧ H d = none ∧ H1 = H.set d (.dic o) ∧ Known prog w H1 d 0) := by
  intro s Q E S k
  obtain ⟨m, news, F, N, fo, ab⟩ := S.at_
  obtain ⟨p, loose, mean, mg, mb, T⟩ := S.ok.top
  refine Dict_empty_made2 F N (modules_low T.nolimit) fun h' o F' N' lo a b c e _ => ?_
  obtain ⟨es, ep, hex, hda, _, hpairs, _⟩ := a
  have hes : es.toList = [] := by
    generalize hq : es.toList = l at hpairs
    cases hpairs; rfl
  exact k (.ref s.heap.objs.size) _ (.ref s.heap.objs.size) h' s.toks ⟨_, o, rfl, S.noneNew, rfl, o, [], AH.set_self, ⟨hex, ⟨es, ep, hda, hes⟩, List.nodup_nil⟩, Nat.le_refl _, fun _ h => (nomatch h)⟩ rfl (S.fresh S.noneNew F' N' fo ab (.head _) fun _ _ _ q => by cases q)
end Mine
namespace Mine
variable {prog : Program} {w : World} {K : Frag} {C : Cx} {ρ ρ' : Rho} {H H' : AH} {h h' : Heap}

theorem oks_two {a b : AV} {vs : Array Value} (o : Oks [a, b] vs.toList) : ∃ v u, vs = #[v, u] ∧ a.ok v ∧ b.ok u := by
  cases hq : vs.toList with
  | nil => rw [hq] at o; cases o
  | cons v r =>
    rw [hq] at o
    cases o with | cons o1 o2 =>
    cases o2 with | cons o3 o4 =>
    cases o4
    exact ⟨_, _, by rw [← Array.toArray_toList (xs := vs), hq], o1, o3⟩
/-- a, b = (e1, e2), stored the other way round -/
theorem ex_two {x y : Str} {xp yp tp ep pos : Pos} {c ec : Nat} {e1 e2 : PySem.Expr} {a b : AV} {R : AF → Rho → AH → Prop} (i j : Nat) (nx : C.scope.names[i]? = some (x, .local)) (ny : C.scope.names[j]? = some (y, .local)) (X : EvLP prog w K C ρ H [e1, e2] [a, b])
    (r : R .next ((ρ.set j b).set i a) H)
    (h1 : swapsWithSole [.Tuple [.Name x xp, .Name y yp] c tp] (.Tuple [e1, e2] ec ep) pos.line C.env = pure false := by rfl) (h2 : swappedStores [.Tuple [.Name x xp, .Name y yp] c tp] (.Tuple [e1, e2] ec ep) C.env = pure (some [x, y]) := by rfl) :
    Ex1 prog w K C ρ H (.Assign [.Tuple [.Name x xp, .Name y yp] c tp] (.Tuple [e1, e2] ec ep) pos) R := by
  intro s Q E S k
  have T : EvG prog w K C ρ H (.Tuple [e1, e2] ec ep) (fun av H' => ∃ t, av = .ref t ∧ H t = none ∧ H' = H.set t (.tup [a, b])) := by
    refine ev_tup (P := fun l h => l = [a, b] ∧ h = H) (X.l ⟨rfl, rfl⟩) fun l h1 t p hn => ?_
    obtain ⟨rfl, rfl⟩ := p
    exact ⟨by show 2 ≤ _; decide, t, rfl, hn, rfl⟩
  refine Assign_Tuple_swapped (names := [x, y]) ?_ h1 h2
  refine T s _ E S ?_
  rintro av H' v h' tk ⟨t, rfl, hn, rfl⟩ ov S'
  cases ov
  obtain ⟨vs, it, oo⟩ := S'.isTup AH.set_self
  obtain ⟨v, u, rfl, ov, ou⟩ := oks_two oo
  obtain ⟨m0, news0, F0, N0, fo, ab⟩ := (S.drop S' hn).at_
  refine unpackItemsN_ (s := { s with heap := h', toks := tk }) F0 N0 it S'.ok.hh rfl fun h2 F N => ?_
  have S2 : St w K C ρ H h2 := ⟨S.ok, S.sep, _, _, F, N, fo, ab⟩
  show wpAny (model prog w) C.A (do holding [v] (bindName C.env y u); do holding [] (bindName C.env x v); pure ()) _ E _
  refine wpAny_bind (wpAny_holding (bindName_ (storeX_L (s := { s with heap := h2, toks := tk }) F N (fun h4 F4 N4 => ?_) S.ok.kind (lookup_of_names S.ok.nd ny))))
  have S4 := S2.store ny ou F4 N4 fo ab
  obtain ⟨m4, news4, F4', N4', fo4, ab4⟩ := S4.at_
  refine wpAny_bind (wpAny_holding (bindName_ (storeX_L (s := { s with heap := h4, toks := tk + 1 }) F4' N4' (fun h5 F5 N5 => wpAny_pure ?_) S.ok.kind (lookup_of_names S.ok.nd nx))))
  exact k .next _ _ _ _ _ r rfl (S4.store nx ov F5 N5 fo4 ab4)
end Mine
namespace Mine
variable {prog : Program} {w : World} {K : Frag} {C : Cx} {ρ ρ' : Rho} {H H' : AH} {h h' : Heap}

theorem Oks.ints {xs : List Int} : ∀ {vs : List Value}, Oks (xs.map .int) vs → IntsAre vs xs := by
  induction xs with
  | nil => intro vs o; cases o; exact .nil
  | cons x xs ih =>
    intro vs o
    cases o with | cons o1 o2 =>
    obtain ⟨t, rfl⟩ := o1
    exact .cons _ _ (ih o2)
/-- i in [..]: written ints -/
theorem ev_inI {l : PySem.Expr} {x : Int} {es : List PySem.Expr} {lp pos : Pos} (xs : List Int) (X : EvP prog w K C ρ H l (.int x)) (Y : EvLP prog w K C ρ H es (xs.map .int)) (hz : xs.length ≤ 16777216 := by decide) :
    EvP prog w K C ρ H (.Compare l [.In] [.List es lp] pos) (.bool (xs.any (· == x))) := by
  intro s Q E S k
  refine wpAny_Compare1 ?_ rfl
  refine X s _ E S fun v h' tk o S' => ?_
  obtain ⟨t, rfl⟩ := o
  refine List_ (Y.l (P := fun as h => as = xs.map .int ∧ h = H) ⟨rfl, rfl⟩ { s with heap := h', toks := tk } _ E S' ?_)
  rintro avs H1 vs h1 tk1 ⟨rfl, rfl⟩ o1 S1
  refine new_list (s := { s with heap := h1, toks := tk1 }) S1 o1 (by rw [List.length_map]; exact hz) fun a h2 hn S2 => ?_
  obtain ⟨m, news, F, N, fo, ab⟩ := S2.at_
  obtain ⟨vs2, n2, hm, o2⟩ := ab a _ AH.set_self
  have il : h2.IsList a vs2.toList.toArray := by rw [Array.toArray_toList]; exact News.isList N hm
  exact in_list_ints il o2.ints (k _ h2 tk1 rfl (S1.drop S2 hn))

/-- d[a, b] = e, the dict of what is known -/
theorem ex_setknown {o e e1 e2 : PySem.Expr} {tp ip pos : Pos} {c : Nat} {d : Addr} {n : Nat} {av : AV} {x y : Str} {R : AF → Rho → AH → Prop} (X : EvP prog w K C ρ H e av) (O : EvP prog w K C ρ H o (.ref d)) (I : EvLP prog w K C ρ H [e1, e2] [.str x, .str y]) (kn : Known prog w H d n) (hz : n ≤ 1000000)
    (r : ∀ t o, H t = none → Known prog w ((H.set t (.tup [.str x, .str y])).set d (.dic o)) d (n + 1) → R .next ρ ((H.set t (.tup [.str x, .str y])).set d (.dic o)))
    (hsw : swapsWith e (some (.Subscript o (.Tuple [e1, e2] c ip) tp)) pos.line C.env = pure false := by rfl) : Ex1 prog w K C ρ H (.Assign [.Subscript o (.Tuple [e1, e2] c ip) tp] e pos) R := by
  intro s Q E S kk
  refine wpAny_Assign_Subscript (X s _ E S fun v h' tk ov S' => ?_) hsw
  refine O { s with heap := h', toks := tk } _ E S' fun v2 h2 tk2 ov2 S2 => ?_
  cases ov2
  have T : EvG prog w K C ρ H (.Tuple [e1, e2] c ip) (fun av H' => ∃ t, av = .ref t ∧ H t = none ∧ H' = H.set t (.tup [.str x, .str y])) := by
    refine ev_tup (P := fun l h => l = [.str x, .str y] ∧ h = H) (I.l ⟨rfl, rfl⟩) fun l h1 t p hn => ?_
    obtain ⟨rfl, rfl⟩ := p
    exact ⟨by show 2 ≤ _; decide, t, rfl, hn, rfl⟩
  refine T { s with heap := h2, toks := tk2 } _ E S2 ?_
  rintro _ _ v3 h3 tk3 ⟨t, rfl, hn, rfl⟩ ov3 S3
  cases ov3
  have kn' : Known prog w (H.set t (.tup [.str x, .str y])) d n := by
    obtain ⟨o, xs, hd, ko, hl, hk⟩ := kn
    exact ⟨o, xs, AH.set_keep hn hd, ko, hl, fun x hx => AH.set_keep hn (hk x hx)⟩
  exact setknown_ok (s := { s with heap := h3, toks := tk3 }) (ks := [x, y]) S3 kn' AH.set_self hz fun o h4 tk4 kn4 S4 => kk .next _ _ _ _ _ (r t o hn kn4) rfl S4

/-- make lists that will not alter any more fast -/
theorem exs_freeze {b : List Stmt} {R : AF → Rho → AH → Prop} (p : Addr → Prop) (X : ∀ H', (∀ a, ¬ p a → H' a = H a) → (∀ a xs, p a → H a = some (.list xs) → RawList H' a xs) → (∀ a o, (∀ xs, o ≠ .list xs) → H a = some o → H' a = some o) → Exs prog w K C ρ H' b R) : Exs prog w K C ρ H b R := by
  intro s Q E S k
  classical
  obtain ⟨m, news, F, N, fo, ab⟩ := id S.at_
  let H' : AH := fun a => if p a then (match H a with | some (.list xs) => (s.heap.get? a).map .raw | o => o) else H a
  have e1 : ∀ a, ¬ p a → H' a = H a := fun a n => if_neg n
  have e3 : ∀ a o, (∀ xs, o ≠ .list xs) → H a = some o → H' a = some o := fun a o n e => by
    show (if p a then _ else _) = _
    split
    · rw [e]; cases o <;> first | rfl | exact absurd rfl (n _)
    · exact e
  have e2 : ∀ a xs, p a → H a = some (.list xs) → ∃ vs n, H' a = some (.raw (listOf vs n)) ∧ (a, listOf vs n) ∈ news ∧ Oks xs vs.toList := fun a xs hp e => by
    obtain ⟨vs, n, hm, o⟩ := ab a _ e
    refine ⟨vs, n, ?_, hm, o⟩
    show (if p a then _ else _) = _
    rw [if_pos hp, e]; simp only; rw [(N _ hm).1]; rfl
  refine X H' e1 (fun a xs hp e => let ⟨vs, n, h1, _, h3⟩ := e2 a xs hp e; ⟨vs, n, h1, h3⟩) e3 s Q E ⟨S.ok, fun a Cc d fs e => ?_, m, news, F, N, fo, fun a o e => ?_⟩ k
  · have : H a = some (.inst Cc d fs) := by
      by_cases hp : p a
      · cases q : H a with
        | none => rw [show H' a = none by show (if p a then _ else _) = _; rw [if_pos hp, q]] at e; cases e
        | some o =>
          cases o with
          | list xs => obtain ⟨vs, n, h1, _⟩ := e2 a xs hp q; rw [h1] at e; cases e
          | _ => rw [e3 a _ (fun _ q => by cases q) q] at e; exact e
      · rw [e1 a hp] at e; exact e
    exact e3 d _ (fun _ q => by cases q) (S.sep a Cc d fs this)
  · by_cases hp : p a
    · cases q : H a with
      | none => rw [show H' a = none by show (if p a then _ else _) = _; rw [if_pos hp, q]] at e; cases e
      | some o' =>
        cases o' with
        | list xs => obtain ⟨vs, n, h1, h2, _⟩ := e2 a xs hp q; rw [h1] at e; cases e; exact h2
        | _ => rw [e3 a _ (fun _ q => by cases q) q] at e; cases e; exact ab a _ q
    · rw [e1 a hp] at e; exact ab a o e

/-- 'a' * n -/
theorem ev_amul {l r : PySem.Expr} {pos : Pos} {n : Int} (X : EvP prog w K C ρ H l (.str "a")) (Y : EvP prog w K C ρ H r (.int n)) (h0 : 0 ≤ n) (h1 : n < 1000) : EvP prog w K C ρ H (.BinOp l .Mult r pos) (.str (PySem.Txt.mul "a" n)) := by
  intro s Q E S k
  refine wpAny_BinOp (X s _ E S fun v h' tk o S' => ?_)
  obtain ⟨t, rfl⟩ := o
  refine Y { s with heap := h', toks := tk } _ E S' fun v2 h2 tk2 o2 S2 => ?_
  obtain ⟨u, rfl⟩ := o2
  have hl : (("a" : Str)).length = 1 := by decide
  refine PySem.SB.mul (s := { s with heap := h2, toks := tk2 }) ⟨?_, fun h2 _ => ?_, fun _ _ => ?_⟩ fun t' k' => k _ h2 _ ⟨_, rfl⟩ S2
  · rw [decide_eq_false (by omega), decide_eq_false (by omega)]; rfl
  · rw [hl]
    have : (1 : Int) ≤ (2 ^ 63 - 1) / n := by
      rw [Int.le_ediv_iff_mul_le (by omega)]; omega
    intro q; have : ((1 : Nat) : Int) = 1 := rfl; omega
  · rw [hl]
    have := sizeLine_big
    show decide (1 * n.toNat > sizeLine) = false
    exact decide_eq_false (by omega)
end Mine
namespace Mine
abbrev prg : Program := PySem.Challenge.rw_nu0331_01.row.prog
noncomputable def st (i : Nat) : Stmt := PySem.Challenge.pw_nu0331_01.main.body.getD i (.Pass default)
noncomputable def st2 (i j : Nat) : Stmt := match st i with
  | .ClassDef (body := b) .. => b.getD j (.Pass default)
  | s => s
noncomputable def fiO (s : Stmt) (f : Addr) (qual : Str) (dV pm : Value) : FI := match s with
  | .FunctionDef (name := n) (args := a) (body := b) (scope := sc) .. => { f, name := n, qual, params := a, body := b, scope := sc, dV, kV := .none, doc := .none, pm, an := none, cdv := .ref (f - 1), ct := .none }
  | _ => { f, name := "", qual, params := ⟨[], [], none, [], [], none, []⟩, body := [], scope := { kind := .function, names := [], isGenerator := false, isCoroutine := false, more := [] }, dV, kV := .none, doc := .none, pm, an := none, cdv := .ref (f - 1), ct := .none }
noncomputable def FI.ob (x : FI) : Obj := ⟨.type "function", none, .func x.fd, #[]⟩
noncomputable def eO (P : Params) (x : Str) (t : Tok) (v : Value) : DictEntry := ⟨PyData.keyHash P x, .str x t, v⟩
noncomputable def dO (c : Value) (n : Nat) (es : List DictEntry) : Obj := { cls := c, data := .dict es.toArray n }
noncomputable def sO (c : Value) (n : Nat) (vs : List Value) : Obj := { cls := c, data := .seq vs.toArray n }
noncomputable def fO (c : String) (vs : List Value) : Obj := { cls := .type c, data := .fields vs.toArray }
noncomputable def cO (a : Addr) (n : Str) (ns : Addr) (s1 s2 : Value) : Obj := { cls := .type "type", data := .cls { name := n, bases := [.type "object"], mro := [.ref a, .type "object"], ns := ns, qualname := n }, slots := #[none, none, some s1, some s2, some (.builtin "object.__new__"), some (.bool true)] }
noncomputable def fNode_init : FI := fiO (st2 1 0) 29 "Node.__init__" (.ref 22) (.str "moduleyard.trees" 187)
noncomputable def fis_designator : FI := fiO (st 2) 43 "is_designator" .none (.str "moduleyard.trees" 187)
noncomputable def froot_var : FI := fiO (st 3) 50 "root_var" .none (.str "moduleyard.trees" 187)
noncomputable def fis_readonly : FI := fiO (st 4) 57 "is_readonly" .none (.str "moduleyard.trees" 187)
noncomputable def fsame_type : FI := fiO (st 6) 64 "same_type" .none (.str "moduleyard.typerel" 249)
noncomputable def fis_integer : FI := fiO (st 7) 71 "is_integer" .none (.str "moduleyard.typerel" 249)
noncomputable def fis_text : FI := fiO (st 8) 78 "is_text" .none (.str "moduleyard.typerel" 249)
noncomputable def fis_open : FI := fiO (st 9) 85 "is_open" .none (.str "moduleyard.typerel" 249)
noncomputable def frecord_of : FI := fiO (st 10) 92 "record_of" .none (.str "moduleyard.typerel" 249)
noncomputable def fextends : FI := fiO (st 11) 99 "extends" .none (.str "moduleyard.typerel" 249)
noncomputable def fequal_types : FI := fiO (st 12) 106 "equal_types" .none (.str "moduleyard.typerel" 249)
noncomputable def fequal_procs : FI := fiO (st 13) 113 "equal_procs" .none (.str "moduleyard.typerel" 249)
noncomputable def fequal_arrays : FI := fiO (st 14) 120 "equal_arrays" .none (.str "moduleyard.typerel" 249)
noncomputable def fassignable_string : FI := fiO (st 15) 127 "assignable_string" .none (.str "moduleyard.typerel" 249)
noncomputable def fassignable_proc : FI := fiO (st 16) 134 "assignable_proc" .none (.str "moduleyard.typerel" 249)
noncomputable def fassignable : FI := fiO (st 17) 141 "assignable" .none (.str "moduleyard.typerel" 249)
noncomputable def fpassable_variable : FI := fiO (st 18) 148 "passable_variable" .none (.str "moduleyard.typerel" 249)
noncomputable def fpassable_structure : FI := fiO (st 19) 155 "passable_structure" .none (.str "moduleyard.typerel" 249)
noncomputable def fpassable : FI := fiO (st 20) 162 "passable" .none (.str "moduleyard.typerel" 249)
noncomputable def fType_init : FI := fiO (st2 22 0) 176 "Type.__init__" .none (.str "moduleyard.types" 377)
noncomputable def fObj_init : FI := fiO (st2 23 0) 197 "Obj.__init__" .none (.str "moduleyard.types" 377)
noncomputable def fTypes_init : FI := fiO (st2 24 0) 218 "Types.__init__" .none (.str "moduleyard.types" 377)
noncomputable def fTypes_new : FI := fiO (st2 24 1) 226 "Types.new" (.ref 219) (.str "moduleyard.types" 377)
noncomputable def fTypes_string : FI := fiO (st2 24 2) 233 "Types.string" .none (.str "moduleyard.types" 377)
noncomputable def flaw_pool : FI := fiO (st 26) 247 "_law_pool" .none (.str "law_nu0331_01" 525)
noncomputable def flaw_pick : FI := fiO (st 27) 254 "_law_pick" .none (.str "law_nu0331_01" 525)
noncomputable def flaw_world : FI := fiO (st 28) 261 "_law_world" .none (.str "law_nu0331_01" 525)
noncomputable def flaw_alike : FI := fiO (st 29) 268 "_law_alike" .none (.str "law_nu0331_01" 525)
noncomputable def flaw_above : FI := fiO (st 30) 275 "_law_above" .none (.str "law_nu0331_01" 525)
noncomputable def flaw_node : FI := fiO (st 31) 282 "_law_node" .none (.str "law_nu0331_01" 525)
noncomputable def flaw_fits : FI := fiO (st 32) 289 "_law_fits" .none (.str "law_nu0331_01" 525)
noncomputable def flaw : FI := fiO (st 33) 296 "law" .none (.str "law_nu0331_01" 525)
noncomputable def MK (P : Params) : Frag := [
  (3, dO (.type "dict") 39 [eO P "__name__" 165 (.str "law_nu0331_01" 525), eO P "__doc__" 166 .none, eO P "__package__" 167 .none, eO P "__loader__" 168 (.builtin "__main__.__loader__#opaque"), eO P "__spec__" 169 .none, eO P "__annotations__" 170 (.ref 6), eO P "__builtins__" 171 (.ref 4), eO P "__file__" 173 (.str "/claim/cut.py" 172), eO P "__cached__" 174 .none, eO P "Node" 226 (.ref 32), eO P "is_designator" 233 (.ref 43), eO P "root_var" 240 (.ref 50), eO P "is_readonly" 248 (.ref 57), eO P "same_type" 258 (.ref 64), eO P "is_integer" 265 (.ref 71), eO P "is_text" 272 (.ref 78), eO P "is_open" 279 (.ref 85), eO P "record_of" 286 (.ref 92), eO P "extends" 296 (.ref 99), eO P "equal_types" 304 (.ref 106), eO P "equal_procs" 315 (.ref 113), eO P "equal_arrays" 323 (.ref 120), eO P "assignable_string" 331 (.ref 127), eO P "assignable_proc" 339 (.ref 134), eO P "assignable" 348 (.ref 141), eO P "passable_variable" 358 (.ref 148), eO P "passable_structure" 368 (.ref 155), eO P "passable" 376 (.ref 162), eO P "Type" 420 (.ref 179), eO P "Obj" 465 (.ref 200), eO P "Types" 524 (.ref 236), eO P "_law_pool" 539 (.ref 247), eO P "_law_pick" 548 (.ref 254), eO P "_law_world" 569 (.ref 261), eO P "_law_alike" 582 (.ref 268), eO P "_law_above" 593 (.ref 275), eO P "_law_node" 607 (.ref 282), eO P "_law_fits" 618 (.ref 289), eO P "law" 641 (.ref 296)]),
  (22, sO (.type "tuple") 0 [.none]),
  (28, fO "code" [(.str "__init__" 201), (.str "Node.__init__" 202), (.str "/claim/cut.py" 203), (.int 4 0), (.int 6 0), (.int 0 0), (.int 0 0), (.int 3 0), (.ref 23), (.bool true), (.int 181 0), (.ref 24), .none, (.ref 25), (.ref 26), (.ref 27), (.int 210 0), (.int 4 0), (.str "/claim/cut.py" 211)]),
  (29, fNode_init.ob),
  (31, dO (.type "dict") 4 [eO P "__module__" 196 (.str "moduleyard.trees" 187), eO P "__firstlineno__" 200 (.int 2 199), eO P "__init__" 212 (.ref 29), eO P "__static_attributes__" 219 (.ref 30), eO P "__dict__" 221 (.ref 33), eO P "__weakref__" 223 (.ref 34), eO P "__doc__" 224 .none]),
  (32, cO 32 "Node" 31 (.str "Node" 189) (.str "Node" 197)),
  (42, fO "code" [(.str "is_designator" 227), (.str "is_designator" 228), (.str "/claim/cut.py" 229), (.int 11 0), (.int 1 0), (.int 0 0), (.int 0 0), (.int 3 0), (.ref 37), (.bool true), (.int 181 0), (.ref 38), .none, (.ref 39), (.ref 40), (.ref 41), (.int 231 0), (.int 11 0), (.str "/claim/cut.py" 232)]),
  (43, fis_designator.ob),
  (49, fO "code" [(.str "root_var" 234), (.str "root_var" 235), (.str "/claim/cut.py" 236), (.int 15 0), (.int 1 0), (.int 0 0), (.int 0 0), (.int 3 0), (.ref 44), (.bool true), (.int 181 0), (.ref 45), .none, (.ref 46), (.ref 47), (.ref 48), (.int 238 0), (.int 15 0), (.str "/claim/cut.py" 239)]),
  (50, froot_var.ob),
  (56, fO "code" [(.str "is_readonly" 241), (.str "is_readonly" 242), (.str "/claim/cut.py" 243), (.int 21 0), (.int 1 0), (.int 0 0), (.int 0 0), (.int 3 0), (.ref 51), (.bool true), (.int 181 0), (.ref 52), .none, (.ref 53), (.ref 54), (.ref 55), (.int 246 0), (.int 21 0), (.str "/claim/cut.py" 247)]),
  (57, fis_readonly.ob),
  (63, fO "code" [(.str "same_type" 251), (.str "same_type" 252), (.str "/claim/cut.py" 253), (.int 25 0), (.int 2 0), (.int 0 0), (.int 0 0), (.int 3 0), (.ref 58), (.bool true), (.int 181 0), (.ref 59), .none, (.ref 60), (.ref 61), (.ref 62), (.int 256 0), (.int 25 0), (.str "/claim/cut.py" 257)]),
  (64, fsame_type.ob),
  (70, fO "code" [(.str "is_integer" 259), (.str "is_integer" 260), (.str "/claim/cut.py" 261), (.int 27 0), (.int 1 0), (.int 0 0), (.int 0 0), (.int 3 0), (.ref 65), (.bool true), (.int 181 0), (.ref 66), .none, (.ref 67), (.ref 68), (.ref 69), (.int 263 0), (.int 27 0), (.str "/claim/cut.py" 264)]),
  (71, fis_integer.ob),
  (77, fO "code" [(.str "is_text" 266), (.str "is_text" 267), (.str "/claim/cut.py" 268), (.int 29 0), (.int 1 0), (.int 0 0), (.int 0 0), (.int 3 0), (.ref 72), (.bool true), (.int 181 0), (.ref 73), .none, (.ref 74), (.ref 75), (.ref 76), (.int 270 0), (.int 29 0), (.str "/claim/cut.py" 271)]),
  (78, fis_text.ob),
  (84, fO "code" [(.str "is_open" 273), (.str "is_open" 274), (.str "/claim/cut.py" 275), (.int 31 0), (.int 1 0), (.int 0 0), (.int 0 0), (.int 3 0), (.ref 79), (.bool true), (.int 181 0), (.ref 80), .none, (.ref 81), (.ref 82), (.ref 83), (.int 277 0), (.int 31 0), (.str "/claim/cut.py" 278)]),
  (85, fis_open.ob),
  (91, fO "code" [(.str "record_of" 280), (.str "record_of" 281), (.str "/claim/cut.py" 282), (.int 33 0), (.int 1 0), (.int 0 0), (.int 0 0), (.int 3 0), (.ref 86), (.bool true), (.int 181 0), (.ref 87), .none, (.ref 88), (.ref 89), (.ref 90), (.int 284 0), (.int 33 0), (.str "/claim/cut.py" 285)]),
  (92, frecord_of.ob),
  (98, fO "code" [(.str "extends" 287), (.str "extends" 288), (.str "/claim/cut.py" 289), (.int 39 0), (.int 2 0), (.int 0 0), (.int 0 0), (.int 3 0), (.ref 93), (.bool true), (.int 181 0), (.ref 94), .none, (.ref 95), (.ref 96), (.ref 97), (.int 294 0), (.int 39 0), (.str "/claim/cut.py" 295)]),
  (99, fextends.ob),
  (105, fO "code" [(.str "equal_types" 297), (.str "equal_types" 298), (.str "/claim/cut.py" 299), (.int 51 0), (.int 2 0), (.int 0 0), (.int 0 0), (.int 3 0), (.ref 100), (.bool true), (.int 181 0), (.ref 101), .none, (.ref 102), (.ref 103), (.ref 104), (.int 302 0), (.int 51 0), (.str "/claim/cut.py" 303)]),
  (106, fequal_types.ob),
  (112, fO "code" [(.str "equal_procs" 305), (.str "equal_procs" 306), (.str "/claim/cut.py" 307), (.int 59 0), (.int 2 0), (.int 0 0), (.int 0 0), (.int 3 0), (.ref 107), (.bool true), (.int 181 0), (.ref 108), .none, (.ref 109), (.ref 110), (.ref 111), (.int 313 0), (.int 59 0), (.str "/claim/cut.py" 314)]),
  (113, fequal_procs.ob),
  (119, fO "code" [(.str "equal_arrays" 316), (.str "equal_arrays" 317), (.str "/claim/cut.py" 318), (.int 70 0), (.int 2 0), (.int 0 0), (.int 0 0), (.int 3 0), (.ref 114), (.bool true), (.int 181 0), (.ref 115), .none, (.ref 116), (.ref 117), (.ref 118), (.int 321 0), (.int 70 0), (.str "/claim/cut.py" 322)]),
  (120, fequal_arrays.ob),
  (126, fO "code" [(.str "assignable_string" 324), (.str "assignable_string" 325), (.str "/claim/cut.py" 326), (.int 76 0), (.int 2 0), (.int 0 0), (.int 0 0), (.int 3 0), (.ref 121), (.bool true), (.int 181 0), (.ref 122), .none, (.ref 123), (.ref 124), (.ref 125), (.int 329 0), (.int 76 0), (.str "/claim/cut.py" 330)]),
  (127, fassignable_string.ob),
  (133, fO "code" [(.str "assignable_proc" 332), (.str "assignable_proc" 333), (.str "/claim/cut.py" 334), (.int 84 0), (.int 2 0), (.int 0 0), (.int 0 0), (.int 3 0), (.ref 128), (.bool true), (.int 181 0), (.ref 129), .none, (.ref 130), (.ref 131), (.ref 132), (.int 337 0), (.int 84 0), (.str "/claim/cut.py" 338)]),
  (134, fassignable_proc.ob),
  (140, fO "code" [(.str "assignable" 340), (.str "assignable" 341), (.str "/claim/cut.py" 342), (.int 88 0), (.int 2 0), (.int 0 0), (.int 0 0), (.int 3 0), (.ref 135), (.bool true), (.int 181 0), (.ref 136), .none, (.ref 137), (.ref 138), (.ref 139), (.int 346 0), (.int 88 0), (.str "/claim/cut.py" 347)]),
  (141, fassignable.ob),
  (147, fO "code" [(.str "passable_variable" 349), (.str "passable_variable" 350), (.str "/claim/cut.py" 351), (.int 103 0), (.int 2 0), (.int 0 0), (.int 0 0), (.int 3 0), (.ref 142), (.bool true), (.int 181 0), (.ref 143), .none, (.ref 144), (.ref 145), (.ref 146), (.int 356 0), (.int 103 0), (.str "/claim/cut.py" 357)]),
  (148, fpassable_variable.ob),
  (154, fO "code" [(.str "passable_structure" 359), (.str "passable_structure" 360), (.str "/claim/cut.py" 361), (.int 116 0), (.int 2 0), (.int 0 0), (.int 0 0), (.int 3 0), (.ref 149), (.bool true), (.int 181 0), (.ref 150), .none, (.ref 151), (.ref 152), (.ref 153), (.int 366 0), (.int 116 0), (.str "/claim/cut.py" 367)]),
  (155, fpassable_structure.ob),
  (161, fO "code" [(.str "passable" 369), (.str "passable" 370), (.str "/claim/cut.py" 371), (.int 127 0), (.int 2 0), (.int 0 0), (.int 0 0), (.int 3 0), (.ref 156), (.bool true), (.int 181 0), (.ref 157), .none, (.ref 158), (.ref 159), (.ref 160), (.int 374 0), (.int 127 0), (.str "/claim/cut.py" 375)]),
  (162, fpassable.ob),
  (175, fO "code" [(.str "__init__" 391), (.str "Type.__init__" 392), (.str "/claim/cut.py" 393), (.int 136 0), (.int 4 0), (.int 0 0), (.int 0 0), (.int 3 0), (.ref 170), (.bool true), (.int 181 0), (.ref 171), .none, (.ref 172), (.ref 173), (.ref 174), (.int 398 0), (.int 136 0), (.str "/claim/cut.py" 399)]),
  (176, fType_init.ob),
  (178, dO (.type "dict") 4 [eO P "__module__" 386 (.str "moduleyard.types" 377), eO P "__firstlineno__" 390 (.int 134 389), eO P "__init__" 400 (.ref 176), eO P "__static_attributes__" 413 (.ref 177), eO P "__dict__" 415 (.ref 180), eO P "__weakref__" 417 (.ref 181), eO P "__doc__" 418 .none]),
  (179, cO 179 "Type" 178 (.str "Type" 379) (.str "Type" 387)),
  (196, fO "code" [(.str "__init__" 433), (.str "Obj.__init__" 434), (.str "/claim/cut.py" 435), (.int 151 0), (.int 5 0), (.int 0 0), (.int 0 0), (.int 3 0), (.ref 191), (.bool true), (.int 181 0), (.ref 192), .none, (.ref 193), (.ref 194), (.ref 195), (.int 441 0), (.int 151 0), (.str "/claim/cut.py" 442)]),
  (197, fObj_init.ob),
  (199, dO (.type "dict") 4 [eO P "__module__" 428 (.str "moduleyard.types" 377), eO P "__firstlineno__" 432 (.int 149 431), eO P "__init__" 443 (.ref 197), eO P "__static_attributes__" 458 (.ref 198), eO P "__dict__" 460 (.ref 201), eO P "__weakref__" 462 (.ref 202), eO P "__doc__" 463 .none]),
  (200, cO 200 "Obj" 199 (.str "Obj" 421) (.str "Obj" 429)),
  (217, fO "code" [(.str "__init__" 478), (.str "Types.__init__" 479), (.str "/claim/cut.py" 480), (.int 168 0), (.int 1 0), (.int 0 0), (.int 0 0), (.int 3 0), (.ref 212), (.bool true), (.int 181 0), (.ref 213), .none, (.ref 214), (.ref 215), (.ref 216), (.int 482 0), (.int 168 0), (.str "/claim/cut.py" 483)]),
  (218, fTypes_init.ob),
  (219, sO (.type "tuple") 0 [(.str "" 485), (.str "" 486)]),
  (225, fO "code" [(.str "new" 487), (.str "Types.new" 488), (.str "/claim/cut.py" 489), (.int 179 0), (.int 5 0), (.int 0 0), (.int 0 0), (.int 3 0), (.ref 220), (.bool true), (.int 181 0), (.ref 221), .none, (.ref 222), (.ref 223), (.ref 224), (.int 496 0), (.int 179 0), (.str "/claim/cut.py" 497)]),
  (226, fTypes_new.ob),
  (232, fO "code" [(.str "string" 499), (.str "Types.string" 500), (.str "/claim/cut.py" 501), (.int 188 0), (.int 2 0), (.int 0 0), (.int 0 0), (.int 3 0), (.ref 227), (.bool true), (.int 181 0), (.ref 228), .none, (.ref 229), (.ref 230), (.ref 231), (.int 505 0), (.int 188 0), (.str "/claim/cut.py" 506)]),
  (233, fTypes_string.ob),
  (235, dO (.type "dict") 4 [eO P "__module__" 473 (.str "moduleyard.types" 377), eO P "__firstlineno__" 477 (.int 166 476), eO P "__init__" 484 (.ref 218), eO P "new" 498 (.ref 226), eO P "string" 507 (.ref 233), eO P "__static_attributes__" 517 (.ref 234), eO P "__dict__" 519 (.ref 237), eO P "__weakref__" 521 (.ref 238), eO P "__doc__" 522 .none]),
  (236, cO 236 "Types" 235 (.str "Types" 466) (.str "Types" 474)),
  (246, fO "code" [(.str "_law_pool" 527), (.str "_law_pool" 528), (.str "/claim/cut.py" 529), (.int 194 0), (.int 1 0), (.int 0 0), (.int 0 0), (.int 3 0), (.ref 241), (.bool true), (.int 181 0), (.ref 242), .none, (.ref 243), (.ref 244), (.ref 245), (.int 537 0), (.int 194 0), (.str "/claim/cut.py" 538)]),
  (247, flaw_pool.ob),
  (253, fO "code" [(.str "_law_pick" 540), (.str "_law_pick" 541), (.str "/claim/cut.py" 542), (.int 209 0), (.int 2 0), (.int 0 0), (.int 0 0), (.int 3 0), (.ref 248), (.bool true), (.int 181 0), (.ref 249), .none, (.ref 250), (.ref 251), (.ref 252), (.int 546 0), (.int 209 0), (.str "/claim/cut.py" 547)]),
  (254, flaw_pick.ob),
  (260, fO "code" [(.str "_law_world" 549), (.str "_law_world" 550), (.str "/claim/cut.py" 551), (.int 219 0), (.int 1 0), (.int 0 0), (.int 0 0), (.int 3 0), (.ref 255), (.bool true), (.int 181 0), (.ref 256), .none, (.ref 257), (.ref 258), (.ref 259), (.int 567 0), (.int 219 0), (.str "/claim/cut.py" 568)]),
  (261, flaw_world.ob),
  (267, fO "code" [(.str "_law_alike" 570), (.str "_law_alike" 571), (.str "/claim/cut.py" 572), (.int 256 0), (.int 3 0), (.int 0 0), (.int 0 0), (.int 3 0), (.ref 262), (.bool true), (.int 181 0), (.ref 263), .none, (.ref 264), (.ref 265), (.ref 266), (.int 580 0), (.int 256 0), (.str "/claim/cut.py" 581)]),
  (268, flaw_alike.ob),
  (274, fO "code" [(.str "_law_above" 583), (.str "_law_above" 584), (.str "/claim/cut.py" 585), (.int 270 0), (.int 3 0), (.int 0 0), (.int 0 0), (.int 3 0), (.ref 269), (.bool true), (.int 181 0), (.ref 270), .none, (.ref 271), (.ref 272), (.ref 273), (.int 591 0), (.int 270 0), (.str "/claim/cut.py" 592)]),
  (275, flaw_above.ob),
  (281, fO "code" [(.str "_law_node" 594), (.str "_law_node" 595), (.str "/claim/cut.py" 596), (.int 281 0), (.int 4 0), (.int 0 0), (.int 0 0), (.int 3 0), (.ref 276), (.bool true), (.int 181 0), (.ref 277), .none, (.ref 278), (.ref 279), (.ref 280), (.int 605 0), (.int 281 0), (.str "/claim/cut.py" 606)]),
  (282, flaw_node.ob),
  (288, fO "code" [(.str "_law_fits" 608), (.str "_law_fits" 609), (.str "/claim/cut.py" 610), (.int 294 0), (.int 3 0), (.int 0 0), (.int 0 0), (.int 3 0), (.ref 283), (.bool true), (.int 181 0), (.ref 284), .none, (.ref 285), (.ref 286), (.ref 287), (.int 616 0), (.int 294 0), (.str "/claim/cut.py" 617)]),
  (289, flaw_fits.ob),
  (295, fO "code" [(.str "law" 619), (.str "law" 620), (.str "/claim/cut.py" 621), (.int 301 0), (.int 1 0), (.int 0 0), (.int 0 0), (.int 3 0), (.ref 290), (.bool true), (.int 181 0), (.ref 291), .none, (.ref 292), (.ref 293), (.ref 294), (.int 639 0), (.int 301 0), (.str "/claim/cut.py" 640)]),
  (296, flaw.ob)]
end Mine
namespace Mine
variable {P : Params}
theorem ka_ty_ : (attrOk (MK P) 179 "number" && (attrOk (MK P) 179 "form" && (attrOk (MK P) 179 "base" && (attrOk (MK P) 179 "length" && (attrOk (MK P) 179 "params" && (attrOk (MK P) 179 "level")))))) = true := by kernel_rfl
theorem ka_ty_number : attrOk (MK P) 179 "number" = true := (Bool.and_eq_true_iff.mp ka_ty_).1
theorem ka_ty_form : attrOk (MK P) 179 "form" = true := (Bool.and_eq_true_iff.mp (Bool.and_eq_true_iff.mp ka_ty_).2).1
theorem ka_ty_base : attrOk (MK P) 179 "base" = true := (Bool.and_eq_true_iff.mp (Bool.and_eq_true_iff.mp (Bool.and_eq_true_iff.mp ka_ty_).2).2).1
theorem ka_ty_length : attrOk (MK P) 179 "length" = true := (Bool.and_eq_true_iff.mp (Bool.and_eq_true_iff.mp (Bool.and_eq_true_iff.mp (Bool.and_eq_true_iff.mp ka_ty_).2).2).2).1
theorem ka_ty_params : attrOk (MK P) 179 "params" = true := (Bool.and_eq_true_iff.mp (Bool.and_eq_true_iff.mp (Bool.and_eq_true_iff.mp (Bool.and_eq_true_iff.mp (Bool.and_eq_true_iff.mp ka_ty_).2).2).2).2).1
theorem ka_ty_level : attrOk (MK P) 179 "level" = true := (Bool.and_eq_true_iff.mp (Bool.and_eq_true_iff.mp (Bool.and_eq_true_iff.mp (Bool.and_eq_true_iff.mp (Bool.and_eq_true_iff.mp ka_ty_).2).2).2).2).2
theorem ka_ob_ : (attrOk (MK P) 200 "kind" && (attrOk (MK P) 200 "readonly" && (attrOk (MK P) 200 "type"))) = true := by kernel_rfl
theorem ka_ob_kind : attrOk (MK P) 200 "kind" = true := (Bool.and_eq_true_iff.mp ka_ob_).1
theorem ka_ob_readonly : attrOk (MK P) 200 "readonly" = true := (Bool.and_eq_true_iff.mp (Bool.and_eq_true_iff.mp ka_ob_).2).1
theorem ka_ob_type : attrOk (MK P) 200 "type" = true := (Bool.and_eq_true_iff.mp (Bool.and_eq_true_iff.mp ka_ob_).2).2
theorem ka_no_ : (attrOk (MK P) 32 "op" && (attrOk (MK P) 32 "kids" && (attrOk (MK P) 32 "value" && (attrOk (MK P) 32 "type")))) = true := by kernel_rfl
theorem ka_no_op : attrOk (MK P) 32 "op" = true := (Bool.and_eq_true_iff.mp ka_no_).1
theorem ka_no_kids : attrOk (MK P) 32 "kids" = true := (Bool.and_eq_true_iff.mp (Bool.and_eq_true_iff.mp ka_no_).2).1
theorem ka_no_value : attrOk (MK P) 32 "value" = true := (Bool.and_eq_true_iff.mp (Bool.and_eq_true_iff.mp (Bool.and_eq_true_iff.mp ka_no_).2).2).1
theorem ka_no_type : attrOk (MK P) 32 "type" = true := (Bool.and_eq_true_iff.mp (Bool.and_eq_true_iff.mp (Bool.and_eq_true_iff.mp ka_no_).2).2).2
theorem ka_ts_ : (attrOk (MK P) 236 "counter" && (attrOk (MK P) 236 "known" && (attrOk (MK P) 236 "boolean" && (attrOk (MK P) 236 "char" && (attrOk (MK P) 236 "byte" && (attrOk (MK P) 236 "integer" && (attrOk (MK P) 236 "mask" && (attrOk (MK P) 236 "nil" && (attrOk (MK P) 236 "none"))))))))) = true := by kernel_rfl
theorem ka_ts_counter : attrOk (MK P) 236 "counter" = true := (Bool.and_eq_true_iff.mp ka_ts_).1
theorem ka_ts_known : attrOk (MK P) 236 "known" = true := (Bool.and_eq_true_iff.mp (Bool.and_eq_true_iff.mp ka_ts_).2).1
theorem ka_ts_boolean : attrOk (MK P) 236 "boolean" = true := (Bool.and_eq_true_iff.mp (Bool.and_eq_true_iff.mp (Bool.and_eq_true_iff.mp ka_ts_).2).2).1
theorem ka_ts_char : attrOk (MK P) 236 "char" = true := (Bool.and_eq_true_iff.mp (Bool.and_eq_true_iff.mp (Bool.and_eq_true_iff.mp (Bool.and_eq_true_iff.mp ka_ts_).2).2).2).1
theorem ka_ts_byte : attrOk (MK P) 236 "byte" = true := (Bool.and_eq_true_iff.mp (Bool.and_eq_true_iff.mp (Bool.and_eq_true_iff.mp (Bool.and_eq_true_iff.mp (Bool.and_eq_true_iff.mp ka_ts_).2).2).2).2).1
theorem ka_ts_integer : attrOk (MK P) 236 "integer" = true := (Bool.and_eq_true_iff.mp (Bool.and_eq_true_iff.mp (Bool.and_eq_true_iff.mp (Bool.and_eq_true_iff.mp (Bool.and_eq_true_iff.mp (Bool.and_eq_true_iff.mp ka_ts_).2).2).2).2).2).1
theorem ka_ts_mask : attrOk (MK P) 236 "mask" = true := (Bool.and_eq_true_iff.mp (Bool.and_eq_true_iff.mp (Bool.and_eq_true_iff.mp (Bool.and_eq_true_iff.mp (Bool.and_eq_true_iff.mp (Bool.and_eq_true_iff.mp (Bool.and_eq_true_iff.mp ka_ts_).2).2).2).2).2).2).1
theorem ka_ts_nil : attrOk (MK P) 236 "nil" = true := (Bool.and_eq_true_iff.mp (Bool.and_eq_true_iff.mp (Bool.and_eq_true_iff.mp (Bool.and_eq_true_iff.mp (Bool.and_eq_true_iff.mp (Bool.and_eq_true_iff.mp (Bool.and_eq_true_iff.mp (Bool.and_eq_true_iff.mp ka_ts_).2).2).2).2).2).2).2).1
theorem ka_ts_none : attrOk (MK P) 236 "none" = true := (Bool.and_eq_true_iff.mp (Bool.and_eq_true_iff.mp (Bool.and_eq_true_iff.mp (Bool.and_eq_true_iff.mp (Bool.and_eq_true_iff.mp (Bool.and_eq_true_iff.mp (Bool.and_eq_true_iff.mp (Bool.and_eq_true_iff.mp ka_ts_).2).2).2).2).2).2).2).2
theorem kz_ty_ : (setOk (MK P) 179 "number" && (setOk (MK P) 179 "form" && (setOk (MK P) 179 "size" && (setOk (MK P) 179 "base" && (setOk (MK P) 179 "length" && (setOk (MK P) 179 "fields" && (setOk (MK P) 179 "level" && (setOk (MK P) 179 "params" && (setOk (MK P) 179 "module" && (setOk (MK P) 179 "label" && (setOk (MK P) 179 "hidden" && (setOk (MK P) 179 "exno")))))))))))) = true := by kernel_rfl
theorem kz_ty_number : setOk (MK P) 179 "number" = true := (Bool.and_eq_true_iff.mp kz_ty_).1
theorem kz_ty_form : setOk (MK P) 179 "form" = true := (Bool.and_eq_true_iff.mp (Bool.and_eq_true_iff.mp kz_ty_).2).1
theorem kz_ty_size : setOk (MK P) 179 "size" = true := (Bool.and_eq_true_iff.mp (Bool.and_eq_true_iff.mp (Bool.and_eq_true_iff.mp kz_ty_).2).2).1
theorem kz_ty_base : setOk (MK P) 179 "base" = true := (Bool.and_eq_true_iff.mp (Bool.and_eq_true_iff.mp (Bool.and_eq_true_iff.mp (Bool.and_eq_true_iff.mp kz_ty_).2).2).2).1
theorem kz_ty_length : setOk (MK P) 179 "length" = true := (Bool.and_eq_true_iff.mp (Bool.and_eq_true_iff.mp (Bool.and_eq_true_iff.mp (Bool.and_eq_true_iff.mp (Bool.and_eq_true_iff.mp kz_ty_).2).2).2).2).1
theorem kz_ty_fields : setOk (MK P) 179 "fields" = true := (Bool.and_eq_true_iff.mp (Bool.and_eq_true_iff.mp (Bool.and_eq_true_iff.mp (Bool.and_eq_true_iff.mp (Bool.and_eq_true_iff.mp (Bool.and_eq_true_iff.mp kz_ty_).2).2).2).2).2).1
theorem kz_ty_level : setOk (MK P) 179 "level" = true := (Bool.and_eq_true_iff.mp (Bool.and_eq_true_iff.mp (Bool.and_eq_true_iff.mp (Bool.and_eq_true_iff.mp (Bool.and_eq_true_iff.mp (Bool.and_eq_true_iff.mp (Bool.and_eq_true_iff.mp kz_ty_).2).2).2).2).2).2).1
theorem kz_ty_params : setOk (MK P) 179 "params" = true := (Bool.and_eq_true_iff.mp (Bool.and_eq_true_iff.mp (Bool.and_eq_true_iff.mp (Bool.and_eq_true_iff.mp (Bool.and_eq_true_iff.mp (Bool.and_eq_true_iff.mp (Bool.and_eq_true_iff.mp (Bool.and_eq_true_iff.mp kz_ty_).2).2).2).2).2).2).2).1
theorem kz_ty_module : setOk (MK P) 179 "module" = true := (Bool.and_eq_true_iff.mp (Bool.and_eq_true_iff.mp (Bool.and_eq_true_iff.mp (Bool.and_eq_true_iff.mp (Bool.and_eq_true_iff.mp (Bool.and_eq_true_iff.mp (Bool.and_eq_true_iff.mp (Bool.and_eq_true_iff.mp (Bool.and_eq_true_iff.mp kz_ty_).2).2).2).2).2).2).2).2).1
theorem kz_ty_label : setOk (MK P) 179 "label" = true := (Bool.and_eq_true_iff.mp (Bool.and_eq_true_iff.mp (Bool.and_eq_true_iff.mp (Bool.and_eq_true_iff.mp (Bool.and_eq_true_iff.mp (Bool.and_eq_true_iff.mp (Bool.and_eq_true_iff.mp (Bool.and_eq_true_iff.mp (Bool.and_eq_true_iff.mp (Bool.and_eq_true_iff.mp kz_ty_).2).2).2).2).2).2).2).2).2).1
theorem kz_ty_hidden : setOk (MK P) 179 "hidden" = true := (Bool.and_eq_true_iff.mp (Bool.and_eq_true_iff.mp (Bool.and_eq_true_iff.mp (Bool.and_eq_true_iff.mp (Bool.and_eq_true_iff.mp (Bool.and_eq_true_iff.mp (Bool.and_eq_true_iff.mp (Bool.and_eq_true_iff.mp (Bool.and_eq_true_iff.mp (Bool.and_eq_true_iff.mp (Bool.and_eq_true_iff.mp kz_ty_).2).2).2).2).2).2).2).2).2).2).1
theorem kz_ty_exno : setOk (MK P) 179 "exno" = true := (Bool.and_eq_true_iff.mp (Bool.and_eq_true_iff.mp (Bool.and_eq_true_iff.mp (Bool.and_eq_true_iff.mp (Bool.and_eq_true_iff.mp (Bool.and_eq_true_iff.mp (Bool.and_eq_true_iff.mp (Bool.and_eq_true_iff.mp (Bool.and_eq_true_iff.mp (Bool.and_eq_true_iff.mp (Bool.and_eq_true_iff.mp kz_ty_).2).2).2).2).2).2).2).2).2).2).2
theorem kz_ob_ : (setOk (MK P) 200 "name" && (setOk (MK P) 200 "kind" && (setOk (MK P) 200 "type" && (setOk (MK P) 200 "place" && (setOk (MK P) 200 "exported" && (setOk (MK P) 200 "readonly" && (setOk (MK P) 200 "level" && (setOk (MK P) 200 "module" && (setOk (MK P) 200 "value" && (setOk (MK P) 200 "slot" && (setOk (MK P) 200 "offset" && (setOk (MK P) 200 "number" && (setOk (MK P) 200 "isparam" && (setOk (MK P) 200 "narrowed")))))))))))))) = true := by kernel_rfl
theorem kz_ob_name : setOk (MK P) 200 "name" = true := (Bool.and_eq_true_iff.mp kz_ob_).1
theorem kz_ob_kind : setOk (MK P) 200 "kind" = true := (Bool.and_eq_true_iff.mp (Bool.and_eq_true_iff.mp kz_ob_).2).1
theorem kz_ob_type : setOk (MK P) 200 "type" = true := (Bool.and_eq_true_iff.mp (Bool.and_eq_true_iff.mp (Bool.and_eq_true_iff.mp kz_ob_).2).2).1
theorem kz_ob_place : setOk (MK P) 200 "place" = true := (Bool.and_eq_true_iff.mp (Bool.and_eq_true_iff.mp (Bool.and_eq_true_iff.mp (Bool.and_eq_true_iff.mp kz_ob_).2).2).2).1
theorem kz_ob_exported : setOk (MK P) 200 "exported" = true := (Bool.and_eq_true_iff.mp (Bool.and_eq_true_iff.mp (Bool.and_eq_true_iff.mp (Bool.and_eq_true_iff.mp (Bool.and_eq_true_iff.mp kz_ob_).2).2).2).2).1
theorem kz_ob_readonly : setOk (MK P) 200 "readonly" = true := (Bool.and_eq_true_iff.mp (Bool.and_eq_true_iff.mp (Bool.and_eq_true_iff.mp (Bool.and_eq_true_iff.mp (Bool.and_eq_true_iff.mp (Bool.and_eq_true_iff.mp kz_ob_).2).2).2).2).2).1
theorem kz_ob_level : setOk (MK P) 200 "level" = true := (Bool.and_eq_true_iff.mp (Bool.and_eq_true_iff.mp (Bool.and_eq_true_iff.mp (Bool.and_eq_true_iff.mp (Bool.and_eq_true_iff.mp (Bool.and_eq_true_iff.mp (Bool.and_eq_true_iff.mp kz_ob_).2).2).2).2).2).2).1
theorem kz_ob_module : setOk (MK P) 200 "module" = true := (Bool.and_eq_true_iff.mp (Bool.and_eq_true_iff.mp (Bool.and_eq_true_iff.mp (Bool.and_eq_true_iff.mp (Bool.and_eq_true_iff.mp (Bool.and_eq_true_iff.mp (Bool.and_eq_true_iff.mp (Bool.and_eq_true_iff.mp kz_ob_).2).2).2).2).2).2).2).1
theorem kz_ob_value : setOk (MK P) 200 "value" = true := (Bool.and_eq_true_iff.mp (Bool.and_eq_true_iff.mp (Bool.and_eq_true_iff.mp (Bool.and_eq_true_iff.mp (Bool.and_eq_true_iff.mp (Bool.and_eq_true_iff.mp (Bool.and_eq_true_iff.mp (Bool.and_eq_true_iff.mp (Bool.and_eq_true_iff.mp kz_ob_).2).2).2).2).2).2).2).2).1
theorem kz_ob_slot : setOk (MK P) 200 "slot" = true := (Bool.and_eq_true_iff.mp (Bool.and_eq_true_iff.mp (Bool.and_eq_true_iff.mp (Bool.and_eq_true_iff.mp (Bool.and_eq_true_iff.mp (Bool.and_eq_true_iff.mp (Bool.and_eq_true_iff.mp (Bool.and_eq_true_iff.mp (Bool.and_eq_true_iff.mp (Bool.and_eq_true_iff.mp kz_ob_).2).2).2).2).2).2).2).2).2).1
theorem kz_ob_offset : setOk (MK P) 200 "offset" = true := (Bool.and_eq_true_iff.mp (Bool.and_eq_true_iff.mp (Bool.and_eq_true_iff.mp (Bool.and_eq_true_iff.mp (Bool.and_eq_true_iff.mp (Bool.and_eq_true_iff.mp (Bool.and_eq_true_iff.mp (Bool.and_eq_true_iff.mp (Bool.and_eq_true_iff.mp (Bool.and_eq_true_iff.mp (Bool.and_eq_true_iff.mp kz_ob_).2).2).2).2).2).2).2).2).2).2).1
theorem kz_ob_number : setOk (MK P) 200 "number" = true := (Bool.and_eq_true_iff.mp (Bool.and_eq_true_iff.mp (Bool.and_eq_true_iff.mp (Bool.and_eq_true_iff.mp (Bool.and_eq_true_iff.mp (Bool.and_eq_true_iff.mp (Bool.and_eq_true_iff.mp (Bool.and_eq_true_iff.mp (Bool.and_eq_true_iff.mp (Bool.and_eq_true_iff.mp (Bool.and_eq_true_iff.mp (Bool.and_eq_true_iff.mp kz_ob_).2).2).2).2).2).2).2).2).2).2).2).1
theorem kz_ob_isparam : setOk (MK P) 200 "isparam" = true := (Bool.and_eq_true_iff.mp (Bool.and_eq_true_iff.mp (Bool.and_eq_true_iff.mp (Bool.and_eq_true_iff.mp (Bool.and_eq_true_iff.mp (Bool.and_eq_true_iff.mp (Bool.and_eq_true_iff.mp (Bool.and_eq_true_iff.mp (Bool.and_eq_true_iff.mp (Bool.and_eq_true_iff.mp (Bool.and_eq_true_iff.mp (Bool.and_eq_true_iff.mp (Bool.and_eq_true_iff.mp kz_ob_).2).2).2).2).2).2).2).2).2).2).2).2).1
theorem kz_ob_narrowed : setOk (MK P) 200 "narrowed" = true := (Bool.and_eq_true_iff.mp (Bool.and_eq_true_iff.mp (Bool.and_eq_true_iff.mp (Bool.and_eq_true_iff.mp (Bool.and_eq_true_iff.mp (Bool.and_eq_true_iff.mp (Bool.and_eq_true_iff.mp (Bool.and_eq_true_iff.mp (Bool.and_eq_true_iff.mp (Bool.and_eq_true_iff.mp (Bool.and_eq_true_iff.mp (Bool.and_eq_true_iff.mp (Bool.and_eq_true_iff.mp kz_ob_).2).2).2).2).2).2).2).2).2).2).2).2).2
theorem kz_no_ : (setOk (MK P) 32 "op" && (setOk (MK P) 32 "place" && (setOk (MK P) 32 "type" && (setOk (MK P) 32 "kids" && (setOk (MK P) 32 "value" && (setOk (MK P) 32 "sure")))))) = true := by kernel_rfl
theorem kz_no_op : setOk (MK P) 32 "op" = true := (Bool.and_eq_true_iff.mp kz_no_).1
theorem kz_no_place : setOk (MK P) 32 "place" = true := (Bool.and_eq_true_iff.mp (Bool.and_eq_true_iff.mp kz_no_).2).1
theorem kz_no_type : setOk (MK P) 32 "type" = true := (Bool.and_eq_true_iff.mp (Bool.and_eq_true_iff.mp (Bool.and_eq_true_iff.mp kz_no_).2).2).1
theorem kz_no_kids : setOk (MK P) 32 "kids" = true := (Bool.and_eq_true_iff.mp (Bool.and_eq_true_iff.mp (Bool.and_eq_true_iff.mp (Bool.and_eq_true_iff.mp kz_no_).2).2).2).1
theorem kz_no_value : setOk (MK P) 32 "value" = true := (Bool.and_eq_true_iff.mp (Bool.and_eq_true_iff.mp (Bool.and_eq_true_iff.mp (Bool.and_eq_true_iff.mp (Bool.and_eq_true_iff.mp kz_no_).2).2).2).2).1
theorem kz_no_sure : setOk (MK P) 32 "sure" = true := (Bool.and_eq_true_iff.mp (Bool.and_eq_true_iff.mp (Bool.and_eq_true_iff.mp (Bool.and_eq_true_iff.mp (Bool.and_eq_true_iff.mp kz_no_).2).2).2).2).2
theorem kz_ts_ : (setOk (MK P) 236 "counter" && (setOk (MK P) 236 "known" && (setOk (MK P) 236 "boolean" && (setOk (MK P) 236 "char" && (setOk (MK P) 236 "byte" && (setOk (MK P) 236 "integer" && (setOk (MK P) 236 "mask" && (setOk (MK P) 236 "nil" && (setOk (MK P) 236 "none"))))))))) = true := by kernel_rfl
theorem kz_ts_counter : setOk (MK P) 236 "counter" = true := (Bool.and_eq_true_iff.mp kz_ts_).1
theorem kz_ts_known : setOk (MK P) 236 "known" = true := (Bool.and_eq_true_iff.mp (Bool.and_eq_true_iff.mp kz_ts_).2).1
theorem kz_ts_boolean : setOk (MK P) 236 "boolean" = true := (Bool.and_eq_true_iff.mp (Bool.and_eq_true_iff.mp (Bool.and_eq_true_iff.mp kz_ts_).2).2).1
theorem kz_ts_char : setOk (MK P) 236 "char" = true := (Bool.and_eq_true_iff.mp (Bool.and_eq_true_iff.mp (Bool.and_eq_true_iff.mp (Bool.and_eq_true_iff.mp kz_ts_).2).2).2).1
theorem kz_ts_byte : setOk (MK P) 236 "byte" = true := (Bool.and_eq_true_iff.mp (Bool.and_eq_true_iff.mp (Bool.and_eq_true_iff.mp (Bool.and_eq_true_iff.mp (Bool.and_eq_true_iff.mp kz_ts_).2).2).2).2).1
theorem kz_ts_integer : setOk (MK P) 236 "integer" = true := (Bool.and_eq_true_iff.mp (Bool.and_eq_true_iff.mp (Bool.and_eq_true_iff.mp (Bool.and_eq_true_iff.mp (Bool.and_eq_true_iff.mp (Bool.and_eq_true_iff.mp kz_ts_).2).2).2).2).2).1
theorem kz_ts_mask : setOk (MK P) 236 "mask" = true := (Bool.and_eq_true_iff.mp (Bool.and_eq_true_iff.mp (Bool.and_eq_true_iff.mp (Bool.and_eq_true_iff.mp (Bool.and_eq_true_iff.mp (Bool.and_eq_true_iff.mp (Bool.and_eq_true_iff.mp kz_ts_).2).2).2).2).2).2).1
theorem kz_ts_nil : setOk (MK P) 236 "nil" = true := (Bool.and_eq_true_iff.mp (Bool.and_eq_true_iff.mp (Bool.and_eq_true_iff.mp (Bool.and_eq_true_iff.mp (Bool.and_eq_true_iff.mp (Bool.and_eq_true_iff.mp (Bool.and_eq_true_iff.mp (Bool.and_eq_true_iff.mp kz_ts_).2).2).2).2).2).2).2).1
theorem kz_ts_none : setOk (MK P) 236 "none" = true := (Bool.and_eq_true_iff.mp (Bool.and_eq_true_iff.mp (Bool.and_eq_true_iff.mp (Bool.and_eq_true_iff.mp (Bool.and_eq_true_iff.mp (Bool.and_eq_true_iff.mp (Bool.and_eq_true_iff.mp (Bool.and_eq_true_iff.mp kz_ts_).2).2).2).2).2).2).2).2
theorem k_is_designator : FI.Ok (MK P) fis_designator where
  look := ⟨.type "function", none, #[], by kernel_rfl⟩
  code := by kernel_rfl
  names := by kernel_rfl
  kind := by kernel_rfl
  co := by kernel_rfl
  gen := by kernel_rfl
  cell := by kernel_rfl
theorem k_root_var : FI.Ok (MK P) froot_var where
  look := ⟨.type "function", none, #[], by kernel_rfl⟩
  code := by kernel_rfl
  names := by kernel_rfl
  kind := by kernel_rfl
  co := by kernel_rfl
  gen := by kernel_rfl
  cell := by kernel_rfl
theorem k_is_readonly : FI.Ok (MK P) fis_readonly where
  look := ⟨.type "function", none, #[], by kernel_rfl⟩
  code := by kernel_rfl
  names := by kernel_rfl
  kind := by kernel_rfl
  co := by kernel_rfl
  gen := by kernel_rfl
  cell := by kernel_rfl
theorem k_same_type : FI.Ok (MK P) fsame_type where
  look := ⟨.type "function", none, #[], by kernel_rfl⟩
  code := by kernel_rfl
  names := by kernel_rfl
  kind := by kernel_rfl
  co := by kernel_rfl
  gen := by kernel_rfl
  cell := by kernel_rfl
theorem k_is_integer : FI.Ok (MK P) fis_integer where
  look := ⟨.type "function", none, #[], by kernel_rfl⟩
  code := by kernel_rfl
  names := by kernel_rfl
  kind := by kernel_rfl
  co := by kernel_rfl
  gen := by kernel_rfl
  cell := by kernel_rfl
theorem k_is_open : FI.Ok (MK P) fis_open where
  look := ⟨.type "function", none, #[], by kernel_rfl⟩
  code := by kernel_rfl
  names := by kernel_rfl
  kind := by kernel_rfl
  co := by kernel_rfl
  gen := by kernel_rfl
  cell := by kernel_rfl
theorem k_record_of : FI.Ok (MK P) frecord_of where
  look := ⟨.type "function", none, #[], by kernel_rfl⟩
  code := by kernel_rfl
  names := by kernel_rfl
  kind := by kernel_rfl
  co := by kernel_rfl
  gen := by kernel_rfl
  cell := by kernel_rfl
theorem k_extends : FI.Ok (MK P) fextends where
  look := ⟨.type "function", none, #[], by kernel_rfl⟩
  code := by kernel_rfl
  names := by kernel_rfl
  kind := by kernel_rfl
  co := by kernel_rfl
  gen := by kernel_rfl
  cell := by kernel_rfl
theorem k_equal_types : FI.Ok (MK P) fequal_types where
  look := ⟨.type "function", none, #[], by kernel_rfl⟩
  code := by kernel_rfl
  names := by kernel_rfl
  kind := by kernel_rfl
  co := by kernel_rfl
  gen := by kernel_rfl
  cell := by kernel_rfl
theorem k_equal_procs : FI.Ok (MK P) fequal_procs where
  look := ⟨.type "function", none, #[], by kernel_rfl⟩
  code := by kernel_rfl
  names := by kernel_rfl
  kind := by kernel_rfl
  co := by kernel_rfl
  gen := by kernel_rfl
  cell := by kernel_rfl
theorem k_equal_arrays : FI.Ok (MK P) fequal_arrays where
  look := ⟨.type "function", none, #[], by kernel_rfl⟩
  code := by kernel_rfl
  names := by kernel_rfl
  kind := by kernel_rfl
  co := by kernel_rfl
  gen := by kernel_rfl
  cell := by kernel_rfl
theorem k_assignable_proc : FI.Ok (MK P) fassignable_proc where
  look := ⟨.type "function", none, #[], by kernel_rfl⟩
  code := by kernel_rfl
  names := by kernel_rfl
  kind := by kernel_rfl
  co := by kernel_rfl
  gen := by kernel_rfl
  cell := by kernel_rfl
theorem k_assignable : FI.Ok (MK P) fassignable where
  look := ⟨.type "function", none, #[], by kernel_rfl⟩
  code := by kernel_rfl
  names := by kernel_rfl
  kind := by kernel_rfl
  co := by kernel_rfl
  gen := by kernel_rfl
  cell := by kernel_rfl
theorem k_passable_variable : FI.Ok (MK P) fpassable_variable where
  look := ⟨.type "function", none, #[], by kernel_rfl⟩
  code := by kernel_rfl
  names := by kernel_rfl
  kind := by kernel_rfl
  co := by kernel_rfl
  gen := by kernel_rfl
  cell := by kernel_rfl
theorem k_passable_structure : FI.Ok (MK P) fpassable_structure where
  look := ⟨.type "function", none, #[], by kernel_rfl⟩
  code := by kernel_rfl
  names := by kernel_rfl
  kind := by kernel_rfl
  co := by kernel_rfl
  gen := by kernel_rfl
  cell := by kernel_rfl
theorem k_passable : FI.Ok (MK P) fpassable where
  look := ⟨.type "function", none, #[], by kernel_rfl⟩
  code := by kernel_rfl
  names := by kernel_rfl
  kind := by kernel_rfl
  co := by kernel_rfl
  gen := by kernel_rfl
  cell := by kernel_rfl
theorem k_Type_init : FI.Ok (MK P) fType_init where
  look := ⟨.type "function", none, #[], by kernel_rfl⟩
  code := by kernel_rfl
  names := by kernel_rfl
  kind := by kernel_rfl
  co := by kernel_rfl
  gen := by kernel_rfl
  cell := by kernel_rfl
theorem k_Obj_init : FI.Ok (MK P) fObj_init where
  look := ⟨.type "function", none, #[], by kernel_rfl⟩
  code := by kernel_rfl
  names := by kernel_rfl
  kind := by kernel_rfl
  co := by kernel_rfl
  gen := by kernel_rfl
  cell := by kernel_rfl
theorem k_Types_init : FI.Ok (MK P) fTypes_init where
  look := ⟨.type "function", none, #[], by kernel_rfl⟩
  code := by kernel_rfl
  names := by kernel_rfl
  kind := by kernel_rfl
  co := by kernel_rfl
  gen := by kernel_rfl
  cell := by kernel_rfl
theorem k_Node_init : FI.Ok (MK P) fNode_init where
  look := ⟨.type "function", none, #[], by kernel_rfl⟩
  code := by kernel_rfl
  names := by kernel_rfl
  kind := by kernel_rfl
  co := by kernel_rfl
  gen := by kernel_rfl
  cell := by kernel_rfl
theorem k_Types_new : FI.Ok (MK P) fTypes_new where
  look := ⟨.type "function", none, #[], by kernel_rfl⟩
  code := by kernel_rfl
  names := by kernel_rfl
  kind := by kernel_rfl
  co := by kernel_rfl
  gen := by kernel_rfl
  cell := by kernel_rfl
theorem k_Types_string : FI.Ok (MK P) fTypes_string where
  look := ⟨.type "function", none, #[], by kernel_rfl⟩
  code := by kernel_rfl
  names := by kernel_rfl
  kind := by kernel_rfl
  co := by kernel_rfl
  gen := by kernel_rfl
  cell := by kernel_rfl
theorem k_law_pool : FI.Ok (MK P) flaw_pool where
  look := ⟨.type "function", none, #[], by kernel_rfl⟩
  code := by kernel_rfl
  names := by kernel_rfl
  kind := by kernel_rfl
  co := by kernel_rfl
  gen := by kernel_rfl
  cell := by kernel_rfl
theorem k_law_pick : FI.Ok (MK P) flaw_pick where
  look := ⟨.type "function", none, #[], by kernel_rfl⟩
  code := by kernel_rfl
  names := by kernel_rfl
  kind := by kernel_rfl
  co := by kernel_rfl
  gen := by kernel_rfl
  cell := by kernel_rfl
theorem k_law_world : FI.Ok (MK P) flaw_world where
  look := ⟨.type "function", none, #[], by kernel_rfl⟩
  code := by kernel_rfl
  names := by kernel_rfl
  kind := by kernel_rfl
  co := by kernel_rfl
  gen := by kernel_rfl
  cell := by kernel_rfl
theorem k_law_alike : FI.Ok (MK P) flaw_alike where
  look := ⟨.type "function", none, #[], by kernel_rfl⟩
  code := by kernel_rfl
  names := by kernel_rfl
  kind := by kernel_rfl
  co := by kernel_rfl
  gen := by kernel_rfl
  cell := by kernel_rfl
theorem k_law_above : FI.Ok (MK P) flaw_above where
  look := ⟨.type "function", none, #[], by kernel_rfl⟩
  code := by kernel_rfl
  names := by kernel_rfl
  kind := by kernel_rfl
  co := by kernel_rfl
  gen := by kernel_rfl
  cell := by kernel_rfl
theorem k_law_node : FI.Ok (MK P) flaw_node where
  look := ⟨.type "function", none, #[], by kernel_rfl⟩
  code := by kernel_rfl
  names := by kernel_rfl
  kind := by kernel_rfl
  co := by kernel_rfl
  gen := by kernel_rfl
  cell := by kernel_rfl
theorem k_law_fits : FI.Ok (MK P) flaw_fits where
  look := ⟨.type "function", none, #[], by kernel_rfl⟩
  code := by kernel_rfl
  names := by kernel_rfl
  kind := by kernel_rfl
  co := by kernel_rfl
  gen := by kernel_rfl
  cell := by kernel_rfl
theorem g_is_designator : nsIn (MK P) mainGlobals "is_designator" = some (some (.ref 43)) ∧ keepIn (MK P) (.ref 43) = true := ⟨by kernel_rfl, by kernel_rfl⟩
theorem g_root_var : nsIn (MK P) mainGlobals "root_var" = some (some (.ref 50)) ∧ keepIn (MK P) (.ref 50) = true := ⟨by kernel_rfl, by kernel_rfl⟩
theorem g_is_readonly : nsIn (MK P) mainGlobals "is_readonly" = some (some (.ref 57)) ∧ keepIn (MK P) (.ref 57) = true := ⟨by kernel_rfl, by kernel_rfl⟩
theorem g_same_type : nsIn (MK P) mainGlobals "same_type" = some (some (.ref 64)) ∧ keepIn (MK P) (.ref 64) = true := ⟨by kernel_rfl, by kernel_rfl⟩
theorem g_is_integer : nsIn (MK P) mainGlobals "is_integer" = some (some (.ref 71)) ∧ keepIn (MK P) (.ref 71) = true := ⟨by kernel_rfl, by kernel_rfl⟩
theorem g_is_open : nsIn (MK P) mainGlobals "is_open" = some (some (.ref 85)) ∧ keepIn (MK P) (.ref 85) = true := ⟨by kernel_rfl, by kernel_rfl⟩
theorem g_record_of : nsIn (MK P) mainGlobals "record_of" = some (some (.ref 92)) ∧ keepIn (MK P) (.ref 92) = true := ⟨by kernel_rfl, by kernel_rfl⟩
theorem g_extends : nsIn (MK P) mainGlobals "extends" = some (some (.ref 99)) ∧ keepIn (MK P) (.ref 99) = true := ⟨by kernel_rfl, by kernel_rfl⟩
theorem g_equal_types : nsIn (MK P) mainGlobals "equal_types" = some (some (.ref 106)) ∧ keepIn (MK P) (.ref 106) = true := ⟨by kernel_rfl, by kernel_rfl⟩
theorem g_equal_procs : nsIn (MK P) mainGlobals "equal_procs" = some (some (.ref 113)) ∧ keepIn (MK P) (.ref 113) = true := ⟨by kernel_rfl, by kernel_rfl⟩
theorem g_equal_arrays : nsIn (MK P) mainGlobals "equal_arrays" = some (some (.ref 120)) ∧ keepIn (MK P) (.ref 120) = true := ⟨by kernel_rfl, by kernel_rfl⟩
theorem g_assignable_proc : nsIn (MK P) mainGlobals "assignable_proc" = some (some (.ref 134)) ∧ keepIn (MK P) (.ref 134) = true := ⟨by kernel_rfl, by kernel_rfl⟩
theorem g_assignable : nsIn (MK P) mainGlobals "assignable" = some (some (.ref 141)) ∧ keepIn (MK P) (.ref 141) = true := ⟨by kernel_rfl, by kernel_rfl⟩
theorem g_passable_variable : nsIn (MK P) mainGlobals "passable_variable" = some (some (.ref 148)) ∧ keepIn (MK P) (.ref 148) = true := ⟨by kernel_rfl, by kernel_rfl⟩
theorem g_passable_structure : nsIn (MK P) mainGlobals "passable_structure" = some (some (.ref 155)) ∧ keepIn (MK P) (.ref 155) = true := ⟨by kernel_rfl, by kernel_rfl⟩
theorem g_passable : nsIn (MK P) mainGlobals "passable" = some (some (.ref 162)) ∧ keepIn (MK P) (.ref 162) = true := ⟨by kernel_rfl, by kernel_rfl⟩
theorem g_law_pool : nsIn (MK P) mainGlobals "_law_pool" = some (some (.ref 247)) ∧ keepIn (MK P) (.ref 247) = true := ⟨by kernel_rfl, by kernel_rfl⟩
theorem g_law_pick : nsIn (MK P) mainGlobals "_law_pick" = some (some (.ref 254)) ∧ keepIn (MK P) (.ref 254) = true := ⟨by kernel_rfl, by kernel_rfl⟩
theorem g_law_world : nsIn (MK P) mainGlobals "_law_world" = some (some (.ref 261)) ∧ keepIn (MK P) (.ref 261) = true := ⟨by kernel_rfl, by kernel_rfl⟩
theorem g_law_alike : nsIn (MK P) mainGlobals "_law_alike" = some (some (.ref 268)) ∧ keepIn (MK P) (.ref 268) = true := ⟨by kernel_rfl, by kernel_rfl⟩
theorem g_law_above : nsIn (MK P) mainGlobals "_law_above" = some (some (.ref 275)) ∧ keepIn (MK P) (.ref 275) = true := ⟨by kernel_rfl, by kernel_rfl⟩
theorem g_law_node : nsIn (MK P) mainGlobals "_law_node" = some (some (.ref 282)) ∧ keepIn (MK P) (.ref 282) = true := ⟨by kernel_rfl, by kernel_rfl⟩
theorem g_law_fits : nsIn (MK P) mainGlobals "_law_fits" = some (some (.ref 289)) ∧ keepIn (MK P) (.ref 289) = true := ⟨by kernel_rfl, by kernel_rfl⟩
theorem g_Type : nsIn (MK P) mainGlobals "Type" = some (some (.ref 179)) ∧ keepIn (MK P) (.ref 179) = true := ⟨by kernel_rfl, by kernel_rfl⟩
theorem i_Type : makesIn (MK P) 179 = true ∧ findIn (MK P) (.ref 179) "__init__" = some (some (.ref 176)) ∧ isFn (MK P) (.ref 176) = true := ⟨by kernel_rfl, by kernel_rfl, by kernel_rfl⟩
theorem g_Obj : nsIn (MK P) mainGlobals "Obj" = some (some (.ref 200)) ∧ keepIn (MK P) (.ref 200) = true := ⟨by kernel_rfl, by kernel_rfl⟩
theorem i_Obj : makesIn (MK P) 200 = true ∧ findIn (MK P) (.ref 200) "__init__" = some (some (.ref 197)) ∧ isFn (MK P) (.ref 197) = true := ⟨by kernel_rfl, by kernel_rfl, by kernel_rfl⟩
theorem g_Node : nsIn (MK P) mainGlobals "Node" = some (some (.ref 32)) ∧ keepIn (MK P) (.ref 32) = true := ⟨by kernel_rfl, by kernel_rfl⟩
theorem i_Node : makesIn (MK P) 32 = true ∧ findIn (MK P) (.ref 32) "__init__" = some (some (.ref 29)) ∧ isFn (MK P) (.ref 29) = true := ⟨by kernel_rfl, by kernel_rfl, by kernel_rfl⟩
theorem g_Types : nsIn (MK P) mainGlobals "Types" = some (some (.ref 236)) ∧ keepIn (MK P) (.ref 236) = true := ⟨by kernel_rfl, by kernel_rfl⟩
theorem i_Types : makesIn (MK P) 236 = true ∧ findIn (MK P) (.ref 236) "__init__" = some (some (.ref 218)) ∧ isFn (MK P) (.ref 218) = true := ⟨by kernel_rfl, by kernel_rfl, by kernel_rfl⟩
theorem m_new : plainGet (MK P) 236 "new" = true ∧ findIn (MK P) (.ref 236) "new" = some (some (.ref 226)) ∧ isFn (MK P) (.ref 226) = true ∧ keepIn (MK P) (.ref 226) = true := ⟨by kernel_rfl, by kernel_rfl, by kernel_rfl, by kernel_rfl⟩
theorem m_string : plainGet (MK P) 236 "string" = true ∧ findIn (MK P) (.ref 236) "string" = some (some (.ref 233)) ∧ isFn (MK P) (.ref 233) = true ∧ keepIn (MK P) (.ref 233) = true := ⟨by kernel_rfl, by kernel_rfl, by kernel_rfl, by kernel_rfl⟩
theorem b_len : nsIn (MK P) mainGlobals "len" = some none := by kernel_rfl
theorem b_range : nsIn (MK P) mainGlobals "range" = some none := by kernel_rfl
theorem b_int : nsIn (MK P) mainGlobals "int" = some none := by kernel_rfl
theorem b_abs : nsIn (MK P) mainGlobals "abs" = some none := by kernel_rfl
theorem b_str : nsIn (MK P) mainGlobals "str" = some none := by kernel_rfl
theorem b_list : nsIn (MK P) mainGlobals "list" = some none := by kernel_rfl
theorem b_zip : nsIn (MK P) mainGlobals "zip" = some none := by kernel_rfl
end Mine
namespace Mine
theorem binds_pos {K : Frag} {x : FI} {n : Nat} {args : List AV} (hn : args.length = n) (hl : ((x.scope.names.take n).all fun y => decide (y.2 = .local)) = true) (ht : (x.scope.names.take n).length = n)
    (hb : ∀ vs : List Value, vs.length = n → bindArgs x.fd ⟨vs, []⟩ = pure (((x.scope.names.take n).map (·.1)).zip vs)) : Binds K x n args args :=
  ⟨hn, hl, ht, fun s vs _ o => ⟨vs, o, BindsTo.of_eq (hb vs (o.len.trans hn))⟩⟩
variable {w : World} {H : AH}

/-- what we ask of a node, an Obj, a Type -/
def Nd (H : AH) (a : Addr) (op : Str) (ty : AV) (kids : Addr) (value : AV) : Prop := ∃ d fs, H a = some (.inst 32 d fs) ∧ lookF "op" fs = some (.str op) ∧ lookF "type" fs = some ty ∧ lookF "kids" fs = some (.ref kids) ∧ lookF "value" fs = some value
def Ob (H : AH) (a : Addr) (kind : Str) (ro : Bool) (ty : AV) : Prop := ∃ d fs, H a = some (.inst 200 d fs) ∧ lookF "kind" fs = some (.str kind) ∧ lookF "readonly" fs = some (.bool ro) ∧ lookF "type" fs = some ty
def Ty (H : AH) (a : Addr) (num : Int) (form : Str) (base : AV) (len : Int) (par : Addr) : Prop := ∃ d fs, H a = some (.inst 179 d fs) ∧ lookF "number" fs = some (.int num) ∧ lookF "form" fs = some (.str form) ∧ lookF "base" fs = some base ∧ lookF "length" fs = some (.int len) ∧ lookF "params" fs = some (.ref par)

section
variable {C : Cx} {ρ : Rho} {x : Str} {xp pos : Pos} {a : Addr} {op form : Str} {ty base value : AV} {kids par : Addr} {num len : Int} {kind : Str} {ro : Bool}
theorem ev_op (X : EvP prg w (MK w.params) C ρ H (.Name x xp) (.ref a)) (n : Nd H a op ty kids value) : EvP prg w (MK w.params) C ρ H (.Attribute (.Name x xp) "op" pos) (.str op) := let ⟨_, _, e, l, _⟩ := n; ev_attr X e l ka_no_op
theorem ev_ntype (X : EvP prg w (MK w.params) C ρ H (.Name x xp) (.ref a)) (n : Nd H a op ty kids value) : EvP prg w (MK w.params) C ρ H (.Attribute (.Name x xp) "type" pos) ty := let ⟨_, _, e, _, l, _⟩ := n; ev_attr X e l ka_no_type
theorem ev_kids (X : EvP prg w (MK w.params) C ρ H (.Name x xp) (.ref a)) (n : Nd H a op ty kids value) : EvP prg w (MK w.params) C ρ H (.Attribute (.Name x xp) "kids" pos) (.ref kids) := let ⟨_, _, e, _, _, l, _⟩ := n; ev_attr X e l ka_no_kids
theorem ev_value (X : EvP prg w (MK w.params) C ρ H (.Name x xp) (.ref a)) (n : Nd H a op ty kids value) : EvP prg w (MK w.params) C ρ H (.Attribute (.Name x xp) "value" pos) value := let ⟨_, _, e, _, _, _, l⟩ := n; ev_attr X e l ka_no_value
theorem ev_kind (X : EvP prg w (MK w.params) C ρ H (.Name x xp) (.ref a)) (n : Ob H a kind ro ty) : EvP prg w (MK w.params) C ρ H (.Attribute (.Name x xp) "kind" pos) (.str kind) := let ⟨_, _, e, l, _⟩ := n; ev_attr X e l ka_ob_kind
theorem ev_ro (X : EvP prg w (MK w.params) C ρ H (.Name x xp) (.ref a)) (n : Ob H a kind ro ty) : EvP prg w (MK w.params) C ρ H (.Attribute (.Name x xp) "readonly" pos) (.bool ro) := let ⟨_, _, e, _, l, _⟩ := n; ev_attr X e l ka_ob_readonly
theorem ev_otype (X : EvP prg w (MK w.params) C ρ H (.Name x xp) (.ref a)) (n : Ob H a kind ro ty) : EvP prg w (MK w.params) C ρ H (.Attribute (.Name x xp) "type" pos) ty := let ⟨_, _, e, _, _, l⟩ := n; ev_attr X e l ka_ob_type
theorem ev_number (X : EvP prg w (MK w.params) C ρ H (.Name x xp) (.ref a)) (n : Ty H a num form base len par) : EvP prg w (MK w.params) C ρ H (.Attribute (.Name x xp) "number" pos) (.int num) := let ⟨_, _, e, l, _⟩ := n; ev_attr X e l ka_ty_number
theorem ev_form (X : EvP prg w (MK w.params) C ρ H (.Name x xp) (.ref a)) (n : Ty H a num form base len par) : EvP prg w (MK w.params) C ρ H (.Attribute (.Name x xp) "form" pos) (.str form) := let ⟨_, _, e, _, l, _⟩ := n; ev_attr X e l ka_ty_form
theorem ev_base (X : EvP prg w (MK w.params) C ρ H (.Name x xp) (.ref a)) (n : Ty H a num form base len par) : EvP prg w (MK w.params) C ρ H (.Attribute (.Name x xp) "base" pos) base := let ⟨_, _, e, _, _, l, _⟩ := n; ev_attr X e l ka_ty_base
theorem ev_length (X : EvP prg w (MK w.params) C ρ H (.Name x xp) (.ref a)) (n : Ty H a num form base len par) : EvP prg w (MK w.params) C ρ H (.Attribute (.Name x xp) "length" pos) (.int len) := let ⟨_, _, e, _, _, _, l, _⟩ := n; ev_attr X e l ka_ty_length
theorem ev_params (X : EvP prg w (MK w.params) C ρ H (.Name x xp) (.ref a)) (n : Ty H a num form base len par) : EvP prg w (MK w.params) C ρ H (.Attribute (.Name x xp) "params" pos) (.ref par) := let ⟨_, _, e, _, _, _, _, l⟩ := n; ev_attr X e l ka_ty_params
theorem ev_bform {bp : Pos} {b : Addr} {num' len' : Int} {form' : Str} {base' : AV} {par' : Addr} (X : EvP prg w (MK w.params) C ρ H (.Name x xp) (.ref a)) (n : Ty H a num form (.ref b) len par) (n' : Ty H b num' form' base' len' par') : EvP prg w (MK w.params) C ρ H (.Attribute (.Attribute (.Name x xp) "base" bp) "form" pos) (.str form') :=
  let ⟨_, _, e, _, l, _⟩ := n'; ev_attr2 (ev_base X n) e l ka_ty_form
end

def loopWords : List Str := ["field", "index", "guard"]
/-- down the kids to the root -/
inductive Root (H : AH) : Addr → Addr → Nat → Prop
  | here {a op ty kids v} : Nd H a op ty kids v → loopWords.any (· == op) = false → Root H a a 0
  | step {a b c op ty kids v rest n} : Nd H a op ty kids v → loopWords.any (· == op) = true → H kids = some (.list (.ref b :: rest)) → Root H b c n → Root H a c (n + 1)

theorem root_loop {C : Cx} {rest : List Stmt} {R : AF → Rho → AH → Prop} {a c : Addr} {n : Nat} {ρ : Rho} {body : List Stmt} {t : PySem.Expr} {pos : Pos} (rt : Root H a c n) (r0 : ρ 0 = some (.ref a))
    (test : ∀ r b op ty kids v, r 0 = some (.ref b) → Nd H b op ty kids v → TsP prg w (MK w.params) C r H t (loopWords.any (· == op)))
    (turn : ∀ r b b' op ty kids v rest (R : AF → Rho → AH → Prop), r 0 = some (.ref b) → Nd H b op ty kids v → H kids = some (.list (.ref b' :: rest)) → R .next (r.set 0 (.ref b')) H → Exs prg w (MK w.params) C r H body R)
    (k : ∀ r, r 0 = some (.ref c) → Root H c c 0 → Exs prg w (MK w.params) C r H rest R) : Exs prg w (MK w.params) C ρ H (.While t body [] pos :: rest) R := by
  refine exs_cons (ex_while (fun n r a => a = H ∧ ∃ b, r 0 = some (.ref b) ∧ Root H b c n) n ⟨rfl, a, r0, rt⟩ ?_)
  rintro n r _ ⟨rfl, b, rb, rt⟩
  cases rt with
  | here nd e => exact ⟨false, e ▸ test r _ _ _ _ _ rb nd, fun _ => k r rb (.here nd e), fun q => by cases q⟩
  | step nd e hk rt => exact ⟨true, e ▸ test r _ _ _ _ _ rb nd, fun q => (by cases q), fun _ => turn r _ _ _ _ _ _ _ _ rb nd hk ⟨_, Nat.lt_succ_self _, rfl, _, rfl, rt⟩⟩

theorem b_desig : ∀ vs : List Value, vs.length = 1 → bindArgs fis_designator.fd ⟨vs, []⟩ = pure (((fis_designator.scope.names.take 1).map (·.1)).zip vs) | [a], _ => by kernel_rfl
theorem b_rootvar : ∀ vs : List Value, vs.length = 1 → bindArgs froot_var.fd ⟨vs, []⟩ = pure (((froot_var.scope.names.take 1).map (·.1)).zip vs) | [a], _ => by kernel_rfl
theorem b_isro : ∀ vs : List Value, vs.length = 1 → bindArgs fis_readonly.fd ⟨vs, []⟩ = pure (((fis_readonly.scope.names.take 1).map (·.1)).zip vs) | [a], _ => by kernel_rfl

theorem c_desig {a c : Addr} {n : Nat} {op : Str} {ty v : AV} {kids : Addr} (rt : Root H a c n) (nd : Nd H c op ty kids v) :
    Fn prg w (MK w.params) 43 0 [.ref a] H (fun r H' => r = .bool ((op == ("var" : Str)) || (op == ("deref" : Str))) ∧ H' = H) := by
  refine fn_def fis_designator 1 k_is_designator (binds_pos rfl (by kernel_rfl) (by kernel_rfl) b_desig) fun A h₀ L r hr => ?_
  show Exs _ _ _ _ _ _ (_ :: _) _
  refine root_loop rt rfl (fun r b op ty kids v rb nd => ts_inT loopWords (ev_op (ev_local 0 rfl rb) nd) (.cons ev_str rfl (.cons ev_str rfl (.cons ev_str rfl .nil)))) (fun r b b' op ty kids v rest R rb nd hk q => ?_) (fun r rc _ => ?_)
  · show Exs _ _ _ _ _ _ (_ :: _) _
    exact exs_cons (ex_assignP 0 rfl (ev_sub (ev_kids (ev_local 0 rfl rb) nd) ev_int (.inl hk) rfl (by decide) (by decide)) (exs_nil q))
  · exact exs_cons (ex_ret (ev_or (ev_cmp (ev_op (ev_local 0 rfl rc) nd) ev_str rfl) fun _ => ev_bo1 (ev_cmp (ev_op (ev_local 0 rfl rc) nd) ev_str rfl)) ⟨rfl, rfl⟩)

theorem c_rootvar {a c : Addr} {n : Nat} {op : Str} {ty v : AV} {kids : Addr} (rt : Root H a c n) (nd : Nd H c op ty kids v) :
    Fn prg w (MK w.params) 50 0 [.ref a] H (fun r H' => r = (if (op == ("var" : Str)) = true then v else .none) ∧ H' = H) := by
  refine fn_def froot_var 1 k_root_var (binds_pos rfl (by kernel_rfl) (by kernel_rfl) b_rootvar) fun A h₀ L r hr => ?_
  show Exs _ _ _ _ _ _ (_ :: _) _
  refine root_loop rt rfl (fun r b op ty kids v rb nd => ts_inT loopWords (ev_op (ev_local 0 rfl rb) nd) (.cons ev_str rfl (.cons ev_str rfl (.cons ev_str rfl .nil)))) (fun r b b' op ty kids v rest R rb nd hk q => ?_) (fun r rc _ => ?_)
  · show Exs _ _ _ _ _ _ (_ :: _) _
    exact exs_cons (ex_assignP 0 rfl (ev_sub (ev_kids (ev_local 0 rfl rb) nd) ev_int (.inl hk) rfl (by decide) (by decide)) (exs_nil q))
  · refine exs_cons (ex_if (ts_cmp (ev_op (ev_local 0 rfl rc) nd) ev_str rfl) (fun e => ?_) (fun e => ?_))
    · exact exs_cons (ex_ret (ev_value (ev_local 0 rfl rc) nd) ⟨by rw [if_pos e], rfl⟩)
    · exact exs_nil (exs_cons (ex_ret ev_none ⟨by rw [e]; rfl, rfl⟩))

/-- read-only: the root is a variable whose Obj is so -/
theorem c_isro {a c : Addr} {n : Nat} {op : Str} {ty v : AV} {kids : Addr} {ro : Bool} (rt : Root H a c n) (nd : Nd H c op ty kids v) (hv : op = "var" → ∃ o kind ty, v = .ref o ∧ Ob H o kind ro ty) :
    Fn prg w (MK w.params) 57 2 [.ref a] H (fun r H' => r = .bool ((op == ("var" : Str)) && ro) ∧ H' = H) := by
  refine fn_def fis_readonly 1 k_is_readonly (binds_pos rfl (by kernel_rfl) (by kernel_rfl) b_isro) fun A h₀ L r hr => ?_
  show Exs _ _ _ _ _ _ (_ :: _) _
  refine exs_cons (ex_assignP 1 rfl (ev_call 2 rfl g_root_var (.cons (ev_local 0 rfl rfl) rfl .nil) (c_rootvar rt nd) hr) ?_)
  cases e : (op == ("var" : Str)) with
  | true =>
    obtain ⟨o, kind, ty', rfl, ob⟩ := hv (beq_iff_eq.mp e)
    refine exs_cons (ex_ret (ev_and (ev_cmp (a := .ref o) (ev_local 1 rfl (by simp [Rho.set])) ev_none rfl) fun _ => ev_bo1 (ev_ro (ev_local 1 rfl (by simp [Rho.set])) ob)) ⟨rfl, rfl⟩)
  | false => exact exs_cons (ex_ret (ev_and (c := false) (ev_cmp (a := .none) (ev_local 1 rfl (by simp [Rho.set])) ev_none rfl) fun q => by cases q) ⟨rfl, rfl⟩)
end Mine
namespace Mine
/-! the world of types, as plain data -/
inductive Sh where
  | int | byte | char | bool | set | nil
  | rcd (above : Option Nat)
  | ptr (home : Nat)
  | arr (count : Int) (inner : Nat)
  | proc (sides : List (Nat × Nat)) (back : Option Nat)

def formOf : Sh → Str
  | .int => "integer" | .byte => "byte" | .char => "char" | .bool => "boolean" | .set => "set" | .nil => "nil"
  | .rcd _ => "record" | .ptr _ => "pointer" | .arr _ _ => "array" | .proc _ _ => "proc"
def tagOf : Sh → Str
  | .int => "int" | .byte => "byte" | .char => "char" | .bool => "bool" | .set => "set" | .nil => "nil"
  | .rcd _ => "rec" | .ptr _ => "ptr" | .arr _ _ => "arr" | .proc _ _ => "proc"
def idxI : Option Nat → Int
  | none => -1
  | some i => i
def lenOf : Sh → Int
  | .arr c _ => c
  | _ => 0
def baseOf (ta : Option Nat → Addr) : Sh → AV
  | .rcd (some a) => .ref (ta (some a))
  | .ptr h => .ref (ta (some h))
  | .arr _ k => .ref (ta (some k))
  | .proc _ b => .ref (ta b)
  | _ => .none
def kindOf (way : Nat) : Str := if way = 0 then "var" else "par"

def ShWf (W : List Sh) (i : Nat) : Sh → Prop
  | .rcd (some a) => a < i ∧ ∃ b, W[a]? = some (.rcd b)
  | .ptr h => h < i ∧ ∃ b, W[h]? = some (.rcd b)
  | .arr c k => k < i
  | .proc sides back => (∀ p ∈ sides, p.1 < 3 ∧ p.2 < i) ∧ (∀ b, back = some b → b < i) ∧ sides.length ≤ 4
  | _ => True
def Valid (W : List Sh) : Option Nat → Prop
  | none => True
  | some i => i < W.length
def idx : Option Nat → Nat
  | none => 0
  | some i => i + 1

def climb (W : List Sh) : Nat → Nat → Nat → Bool
  | 0, _, _ => false
  | n + 1, i, j => (i == j) || match W[i]? with
    | some (.rcd (some a)) => climb W n a j
    | _ => false
def aboveW (W : List Sh) (i j : Nat) : Bool := match W[i]?, W[j]? with
  | some (.rcd _), some (.rcd _) => climb W W.length i j
  | some (.ptr h), some (.ptr k) => climb W W.length h k
  | _, _ => false
def alikeF (W : List Sh) : Nat → Option Nat → Option Nat → Bool
  | 0, i, j => i == j
  | n + 1, i, j => (i == j) || match i, j with
    | some i, some j => match W[i]?, W[j]? with
      | some (.arr c k), some (.arr c' k') => (decide (c < 0) && decide (c' < 0)) && alikeF W n (some k) (some k')
      | some (.proc s b), some (.proc s' b') => (s.length == s'.length) && ((s.zip s').all (fun p => (p.1.1 == p.2.1) && alikeF W n (some p.1.2) (some p.2.2)) && alikeF W n b b')
      | _, _ => false
    | _, _ => false

def Wf (W : List Sh) : Prop := ∀ i s, W[i]? = some s → ShWf W i s
theorem climb_fuel {W : List Sh} (wf : Wf W) {j : Nat} : ∀ i n m, i < n → i < m → climb W n i j = climb W m i j := by
  intro i
  induction i using Nat.strongRecOn with
  | ind i ih =>
    intro n m hn hm
    match n, m, hn, hm with
    | n + 1, m + 1, hn, hm =>
      unfold climb
      cases hW : W[i]? with
      | none => rfl
      | some s =>
        cases s with
        | rcd a =>
          cases a with
          | none => rfl
          | some a =>
            have := (wf i _ hW).1
            simp only
            rw [ih a this n m (by omega) (by omega)]
        | _ => rfl
theorem get_lt {W : List Sh} {i : Nat} {s : Sh} (h : W[i]? = some s) : i < W.length := (List.getElem?_eq_some_iff.mp h).1

/-- the heap bears the world -/
inductive SidesOk (H : AH) (ta : Option Nat → Addr) : List Addr → List (Nat × Nat) → Prop
  | nil : SidesOk H ta [] []
  | cons {o os p ps} : Ob H o (kindOf p.1) (p.1 == 2) (.ref (ta (some p.2))) → SidesOk H ta os ps → SidesOk H ta (o :: os) (p :: ps)
inductive PairsOk (H : AH) : List Addr → List (Nat × Nat) → Prop
  | nil : PairsOk H [] []
  | cons {t ts p ps} : H t = some (.tup [.int p.1, .int p.2]) → PairsOk H ts ps → PairsOk H (t :: ts) (p :: ps)
def ShOk (H : AH) (sh : Addr) : Sh → Prop
  | .rcd a => H sh = some (.tup [.str "rec", .int (idxI a)])
  | .ptr h => H sh = some (.tup [.str "ptr", .int h])
  | .arr c k => H sh = some (.tup [.str "arr", .int c, .int k])
  | .proc sides back => ∃ sl ts, H sh = some (.tup [.str "proc", .ref sl, .int (idxI back)]) ∧ RawList H sl (ts.map .ref) ∧ PairsOk H ts sides
  | s => H sh = some (.tup [.str (tagOf s)])
def RowOk (H : AH) (r t : Addr) (s : Sh) : Prop := ∃ sh, H r = some (.tup [.ref t, .ref sh]) ∧ ShOk H sh s
structure WOk (H : AH) (W : List Sh) (rows : Addr) (ta : Option Nat → Addr) (num : Option Nat → Int) : Prop where
  ty : ∀ i s, W[i]? = some s → ∃ par, Ty H (ta (some i)) (num (some i)) (formOf s) (baseOf ta s) (lenOf s) par ∧ ∀ sides back, s = .proc sides back → ∃ os, H par = some (.list (os.map .ref)) ∧ SidesOk H ta os sides
  non : ∃ par, Ty H (ta none) (num none) "none" .none 0 par
  inj : ∀ i j, Valid W i → Valid W j → num i = num j → i = j
  rows : ∃ rs : List Addr, H rows = some (.list (rs.map .ref)) ∧ rs.length = W.length ∧ ∀ i s r, W[i]? = some s → rs[i]? = some r → RowOk H r (ta (some i)) s
  wf : Wf W
  small : W.length ≤ 40

theorem PairsOk.len {H : AH} {ts : List Addr} {ps : List (Nat × Nat)} (o : PairsOk H ts ps) : ts.length = ps.length := by induction o with | nil => rfl | cons _ _ ih => simp [ih]
theorem SidesOk.len {H : AH} {ta : Option Nat → Addr} {ts : List Addr} {ps : List (Nat × Nat)} (o : SidesOk H ta ts ps) : ts.length = ps.length := by induction o with | nil => rfl | cons _ _ ih => simp [ih]
theorem PairsOk.get {H : AH} {ts : List Addr} {ps : List (Nat × Nat)} (o : PairsOk H ts ps) : ∀ {i : Nat} {p}, ps[i]? = some p → ∃ t, ts[i]? = some t ∧ H t = some (.tup [.int p.1, .int p.2]) := by
  induction o with
  | nil => intro i p e; simp at e
  | cons h _ ih =>
    intro i p e
    cases i with
    | zero => simp at e; subst e; exact ⟨_, by simp, h⟩
    | succ i => simp at e; simpa using ih e
theorem SidesOk.get {H : AH} {ta : Option Nat → Addr} {ts : List Addr} {ps : List (Nat × Nat)} (o : SidesOk H ta ts ps) : ∀ {i : Nat} {p}, ps[i]? = some p → ∃ t, ts[i]? = some t ∧ Ob H t (kindOf p.1) (p.1 == 2) (.ref (ta (some p.2))) := by
  induction o with
  | nil => intro i p e; simp at e
  | cons h _ ih =>
    intro i p e
    cases i with
    | zero => simp at e; subst e; exact ⟨_, by simp, h⟩
    | succ i => simp at e; simpa using ih e

section
variable {H : AH} {W : List Sh} {rows : Addr} {ta : Option Nat → Addr} {num : Option Nat → Int}
/-- a type that the world knows, none too -/
theorem WOk.any (K : WOk H W rows ta num) {i : Option Nat} (v : Valid W i) : ∃ form base len par, Ty H (ta i) (num i) form base len par := by
  cases i with
  | none => obtain ⟨p, h⟩ := K.non; exact ⟨_, _, _, _, h⟩
  | some i => obtain ⟨p, h, _⟩ := K.ty i _ (List.getElem?_eq_getElem v); exact ⟨_, _, _, _, h⟩
theorem WOk.num_eq (K : WOk H W rows ta num) {i j : Option Nat} (vi : Valid W i) (vj : Valid W j) : (num i == num j) = (i == j) := by
  rw [Bool.eq_iff_iff, beq_iff_eq, beq_iff_eq]
  exact ⟨K.inj i j vi vj, fun e => by rw [e]⟩
end
end Mine
namespace Mine
variable {w : World} {H : AH} {W : List Sh} {rows : Addr} {ta : Option Nat → Addr} {num : Option Nat → Int}

theorem b_same : ∀ vs : List Value, vs.length = 2 → bindArgs fsame_type.fd ⟨vs, []⟩ = pure (((fsame_type.scope.names.take 2).map (·.1)).zip vs) | [a, b], _ => by kernel_rfl
theorem b_isint : ∀ vs : List Value, vs.length = 1 → bindArgs fis_integer.fd ⟨vs, []⟩ = pure (((fis_integer.scope.names.take 1).map (·.1)).zip vs) | [a], _ => by kernel_rfl
theorem b_isopen : ∀ vs : List Value, vs.length = 1 → bindArgs fis_open.fd ⟨vs, []⟩ = pure (((fis_open.scope.names.take 1).map (·.1)).zip vs) | [a], _ => by kernel_rfl
theorem b_recof : ∀ vs : List Value, vs.length = 1 → bindArgs frecord_of.fd ⟨vs, []⟩ = pure (((frecord_of.scope.names.take 1).map (·.1)).zip vs) | [a], _ => by kernel_rfl
theorem b_extends : ∀ vs : List Value, vs.length = 2 → bindArgs fextends.fd ⟨vs, []⟩ = pure (((fextends.scope.names.take 2).map (·.1)).zip vs) | [a, b], _ => by kernel_rfl
theorem b_eqt : ∀ vs : List Value, vs.length = 2 → bindArgs fequal_types.fd ⟨vs, []⟩ = pure (((fequal_types.scope.names.take 2).map (·.1)).zip vs) | [a, b], _ => by kernel_rfl
theorem b_eqp : ∀ vs : List Value, vs.length = 2 → bindArgs fequal_procs.fd ⟨vs, []⟩ = pure (((fequal_procs.scope.names.take 2).map (·.1)).zip vs) | [a, b], _ => by kernel_rfl
theorem b_eqa : ∀ vs : List Value, vs.length = 2 → bindArgs fequal_arrays.fd ⟨vs, []⟩ = pure (((fequal_arrays.scope.names.take 2).map (·.1)).zip vs) | [a, b], _ => by kernel_rfl

section
variable {a b : Addr} {n1 n2 l1 l2 : Int} {f1 f2 : Str} {b1 b2 : AV} {p1 p2 : Addr}
theorem c_same (x : Ty H a n1 f1 b1 l1 p1) (y : Ty H b n2 f2 b2 l2 p2) : Fn prg w (MK w.params) 64 0 [.ref a, .ref b] H (fun r H' => r = .bool (n1 == n2) ∧ H' = H) := by
  refine fn_def fsame_type 2 k_same_type (binds_pos rfl (by kernel_rfl) (by kernel_rfl) b_same) fun A h₀ L r hr => ?_
  show Exs _ _ _ _ _ _ (_ :: _) _
  exact exs_cons (ex_ret (ev_cmp (ev_number (ev_local 0 rfl rfl) x) (ev_number (ev_local 1 rfl rfl) y) rfl) ⟨rfl, rfl⟩)
theorem c_isint (x : Ty H a n1 f1 b1 l1 p1) : Fn prg w (MK w.params) 71 0 [.ref a] H (fun r H' => r = .bool ((f1 == ("integer" : Str)) || (f1 == ("byte" : Str))) ∧ H' = H) := by
  refine fn_def fis_integer 1 k_is_integer (binds_pos rfl (by kernel_rfl) (by kernel_rfl) b_isint) fun A h₀ L r hr => ?_
  show Exs _ _ _ _ _ _ (_ :: _) _
  exact exs_cons (ex_ret (ev_or (ev_cmp (ev_form (ev_local 0 rfl rfl) x) ev_str rfl) fun _ => ev_bo1 (ev_cmp (ev_form (ev_local 0 rfl rfl) x) ev_str rfl)) ⟨rfl, rfl⟩)
theorem c_isopen (x : Ty H a n1 f1 b1 l1 p1) : Fn prg w (MK w.params) 85 0 [.ref a] H (fun r H' => r = .bool ((f1 == ("array" : Str)) && decide (l1 < 0)) ∧ H' = H) := by
  refine fn_def fis_open 1 k_is_open (binds_pos rfl (by kernel_rfl) (by kernel_rfl) b_isopen) fun A h₀ L r hr => ?_
  show Exs _ _ _ _ _ _ (_ :: _) _
  exact exs_cons (ex_ret (ev_and (ev_cmp (ev_form (ev_local 0 rfl rfl) x) ev_str rfl) fun _ => ev_bo1 (ev_cmp (ev_length (ev_local 0 rfl rfl) x) ev_int rfl)) ⟨rfl, rfl⟩)
def recOf (f : Str) (b : AV) (a : Addr) : AV := if (f == ("record" : Str)) = true then .ref a else if (f == ("pointer" : Str)) = true then b else .none
theorem c_recof (x : Ty H a n1 f1 b1 l1 p1) : Fn prg w (MK w.params) 92 0 [.ref a] H (fun r H' => r = recOf f1 b1 a ∧ H' = H) := by
  refine fn_def frecord_of 1 k_record_of (binds_pos rfl (by kernel_rfl) (by kernel_rfl) b_recof) fun A h₀ L r hr => ?_
  show Exs _ _ _ _ _ _ (_ :: _) _
  refine exs_cons (ex_if (ts_cmp (ev_form (ev_local 0 rfl rfl) x) ev_str rfl) (fun e => ?_) (fun e => ?_))
  · exact exs_cons (ex_ret (ev_local 0 rfl rfl) ⟨by unfold recOf; rw [if_pos e], rfl⟩)
  · refine exs_nil (exs_cons (ex_if (ts_cmp (ev_form (ev_local 0 rfl rfl) x) ev_str rfl) (fun e2 => ?_) (fun e2 => ?_)))
    · exact exs_cons (ex_ret (ev_base (ev_local 0 rfl rfl) x) ⟨by unfold recOf; rw [e, e2]; rfl, rfl⟩)
    · exact exs_nil (exs_cons (ex_ret ev_none ⟨by unfold recOf; rw [e, e2]; rfl, rfl⟩))
end

theorem above_ne {i j : Nat} {s t : Sh} (hs : W[i]? = some s) (ht : W[j]? = some t) (e : (formOf s != formOf t) = true) : aboveW W i j = false := by
  unfold aboveW; rw [hs, ht]
  cases s <;> cases t <;> first | rfl | (simp [formOf] at e)
theorem ext_cases (K : WOk H W rows ta num) {i j : Nat} {s t : Sh} (hs : W[i]? = some s) (ht : W[j]? = some t) (e : (formOf s != formOf t) = false) :
    (recOf (formOf t) (baseOf ta t) (ta (some j)) = .none ∧ aboveW W i j = false) ∨
    (∃ p q a b, recOf (formOf s) (baseOf ta s) (ta (some i)) = .ref (ta (some p)) ∧ recOf (formOf t) (baseOf ta t) (ta (some j)) = .ref (ta (some q)) ∧ W[p]? = some (.rcd a) ∧ W[q]? = some (.rcd b) ∧ aboveW W i j = climb W W.length p q) := by
  have wi := K.wf i s hs
  have wj := K.wf j t ht
  cases s <;> cases t <;> first
    | (exfalso; revert e; simp only [formOf]; decide)
    | exact .inl ⟨by simp only [formOf, recOf]; rfl, by unfold aboveW; rw [hs, ht]⟩
    | (rename_i a b; exact .inr ⟨i, j, a, b, by simp only [formOf, recOf]; rfl, by simp only [formOf, recOf]; rfl, hs, ht, by unfold aboveW; rw [hs, ht]⟩)
    | (rename_i a b; obtain ⟨_, x, hx⟩ := wi; obtain ⟨_, y, hy⟩ := wj; exact .inr ⟨a, b, x, y, by simp only [formOf, recOf]; rfl, by simp only [formOf, recOf]; rfl, hx, hy, by unfold aboveW; rw [hs, ht]⟩)

theorem c_extends (K : WOk H W rows ta num) {i j : Nat} {s t : Sh} (hs : W[i]? = some s) (ht : W[j]? = some t) : Fn prg w (MK w.params) 99 2 [.ref (ta (some i)), .ref (ta (some j))] H (fun r H' => r = .bool (aboveW W i j) ∧ H' = H) := by
  obtain ⟨p1, x, _⟩ := K.ty i s hs
  obtain ⟨p2, y, _⟩ := K.ty j t ht
  refine fn_def fextends 2 k_extends (binds_pos rfl (by kernel_rfl) (by kernel_rfl) b_extends) fun A h₀ L r hr => ?_
  show Exs _ _ _ _ _ _ (_ :: _) _
  refine exs_cons (ex_if (ts_cmp (ev_form (ev_local 0 rfl rfl) x) (ev_form (ev_local 1 rfl rfl) y) rfl) (fun e => ?_) (fun e => exs_nil ?_))
  · exact exs_cons (ex_ret ev_bool ⟨by rw [above_ne hs ht e], rfl⟩)
  refine exs_cons (ex_assignP 2 rfl (ev_call 4 rfl g_record_of (.cons (ev_local 0 rfl rfl) rfl .nil) (c_recof x) hr) ?_)
  refine exs_cons (ex_assignP 3 rfl (ev_call 4 rfl g_record_of (.cons (ev_local 1 rfl rfl) rfl .nil) (c_recof y) hr) ?_)
  rcases ext_cases K hs ht e with ⟨e1, e2⟩ | ⟨p, q, ra, rb, e1, e2, hp, hq, e3⟩
  · rw [e1]
    refine exs_cons (ex_if (ts_cmp (a := .none) (ev_local 3 rfl rfl) ev_none rfl) (fun _ => ?_) (fun q => by cases q))
    exact exs_cons (ex_ret ev_bool ⟨by rw [e2], rfl⟩)
  rw [e1, e2, e3]
  refine exs_cons (ex_if (ts_cmp (a := .ref (ta (some q))) (ev_local 3 rfl rfl) ev_none rfl) (fun q => by cases q) (fun _ => exs_nil ?_))
  obtain ⟨pq, z, _⟩ := K.ty q _ hq
  refine exs_cons (ex_while (fun n r a => a = H ∧ r 3 = some (.ref (ta (some q))) ∧ ((∃ p' ra', r 2 = some (.ref (ta (some p'))) ∧ W[p']? = some (.rcd ra') ∧ p' < n ∧ climb W W.length p' q = climb W W.length p q) ∨ (r 2 = some .none ∧ climb W W.length p q = false))) (p + 1)
    ⟨rfl, rfl, .inl ⟨p, ra, rfl, hp, Nat.lt_succ_self _, rfl⟩⟩ ?_)
  rintro n r _ ⟨rfl, r3, ⟨p', ra', r2, hp', hn, hc⟩ | ⟨r2, hc⟩⟩
  · refine ⟨true, ts_cmp (a := .ref _) (ev_local 2 rfl r2) ev_none rfl, fun q => (by cases q), fun _ => ?_⟩
    obtain ⟨pp, u, _⟩ := K.ty p' _ hp'
    show Exs _ _ _ _ _ _ (_ :: _) _
    refine exs_cons (ex_if (ts_call (ev_call 5 rfl g_same_type (.cons (ev_local 2 rfl r2) rfl (.cons (ev_local 3 rfl r3) rfl .nil)) (c_same u z) hr)) (fun e4 => ?_) (fun e4 => exs_nil ?_))
    · have hpq : p' = q := by
        have := K.inj (some p') (some q) (get_lt hp') (get_lt hq) (beq_iff_eq.mp e4)
        exact Option.some.inj this
      refine exs_cons (ex_ret ev_bool ⟨?_, rfl⟩)
      rw [← hc, hpq]
      have hl := get_lt hq
      obtain ⟨m, hm⟩ : ∃ m, W.length = m + 1 := ⟨W.length - 1, by omega⟩
      rw [hm]; unfold climb; simp
    · have hpq : (p' == q) = false := by
        have := K.num_eq (i := some p') (j := some q) (get_lt hp') (get_lt hq)
        rw [e4] at this
        cases h : (p' == q) with
        | false => rfl
        | true => rw [beq_iff_eq.mp h] at this; simp at this
      have hl := get_lt hp'
      obtain ⟨m, hm⟩ : ∃ m, W.length = m + 1 := ⟨W.length - 1, by omega⟩
      refine exs_cons (ex_assignP 2 rfl (ev_base (ev_local 2 rfl r2) u) (exs_nil ⟨n - 1, by omega, rfl, r3, ?_⟩))
      cases ra' with
      | none =>
        refine .inr ⟨rfl, ?_⟩
        rw [← hc, hm]; unfold climb; rw [hpq, hp']; rfl
      | some a =>
        obtain ⟨wa, rb', hb'⟩ := K.wf p' _ hp'
        refine .inl ⟨a, rb', rfl, hb', by omega, ?_⟩
        rw [← hc, hm]
        rw [show climb W (m + 1) p' q = climb W m a q by conv => lhs; unfold climb; rw [hpq, hp']; simp]
        exact climb_fuel K.wf a _ _ (by omega) (by omega)
  · exact ⟨false, ts_cmp (a := .none) (ev_local 2 rfl r2) ev_none rfl, fun _ => exs_cons (ex_ret ev_bool ⟨by rw [hc], rfl⟩), fun q => by cases q⟩
end Mine
namespace Mine
variable {w : World} {H : AH} {W : List Sh} {rows : Addr} {ta : Option Nat → Addr} {num : Option Nat → Int}

/-- what a type's place tells -/
structure Inf (H : AH) (W : List Sh) (ta : Option Nat → Addr) (num : Option Nat → Int) (i : Option Nat) (f : Str) (b : AV) (l : Int) (p : Addr) : Prop where
  ty : Ty H (ta i) (num i) f b l p
  op : ((f == ("array" : Str)) && decide (l < 0)) = true → ∃ k c m, i = some k ∧ W[k]? = some (.arr c m) ∧ c < 0 ∧ b = .ref (ta (some m))
  op' : ∀ k c m, i = some k → W[k]? = some (.arr c m) → c < 0 → ((f == ("array" : Str)) && decide (l < 0)) = true
  pr : (f == ("proc" : Str)) = true → ∃ k s bb os, i = some k ∧ W[k]? = some (.proc s bb) ∧ b = .ref (ta bb) ∧ H p = some (.list (os.map .ref)) ∧ SidesOk H ta os s
  pr' : ∀ k s bb, i = some k → W[k]? = some (.proc s bb) → (f == ("proc" : Str)) = true
theorem WOk.inf (K : WOk H W rows ta num) {i : Option Nat} (v : Valid W i) : ∃ f b l p, Inf H W ta num i f b l p := by
  cases i with
  | none =>
    obtain ⟨p, h⟩ := K.non
    exact ⟨_, _, _, _, h, fun q => absurd q (by decide), fun _ _ _ q => by (cases q), fun q => absurd q (by decide), fun _ _ _ q => by (cases q)⟩
  | some i =>
    obtain ⟨s, hs⟩ : ∃ s, W[i]? = some s := ⟨_, List.getElem?_eq_getElem v⟩
    obtain ⟨p, h, hp⟩ := K.ty i s hs
    refine ⟨_, _, _, _, h, fun q => ?_, fun k c m e e2 hc => ?_, fun q => ?_, fun k t bb e e2 => ?_⟩
    · cases s <;> first | (exfalso; revert q; simp only [formOf]; intro q; have := (Bool.and_eq_true_iff.mp q).1; revert this; decide) | skip
      rename_i c m
      exact ⟨i, c, m, rfl, hs, of_decide_eq_true (Bool.and_eq_true_iff.mp q).2, rfl⟩
    · cases e; rw [hs] at e2; cases e2
      exact Bool.and_eq_true_iff.mpr ⟨(by decide : (("array" : Str) == "array") = true), decide_eq_true hc⟩
    · cases s <;> first | (exfalso; revert q; simp only [formOf]; decide) | skip
      rename_i t bb
      obtain ⟨os, ho, hs2⟩ := hp t bb rfl
      exact ⟨i, t, bb, os, rfl, hs, rfl, ho, hs2⟩
    · cases e; rw [hs] at e2; cases e2; exact (by decide : (("proc" : Str) == "proc") = true)

theorem alike_self (n : Nat) (i : Option Nat) : alikeF W n i i = true := by cases n <;> simp [alikeF]

theorem kinds_ne {p q : Nat} (hp : p < 3) (hq : q < 3) : ((kindOf p != kindOf q) || ((p == 2) != (q == 2))) = !(p == q) := by
  have : ∀ p : Fin 3, ∀ q : Fin 3, ((kindOf p != kindOf q) || ((p.1 == 2) != (q.1 == 2))) = !(p.1 == q.1) := by decide
  exact this ⟨p, hp⟩ ⟨q, hq⟩

theorem all_mismatch {α : Type} {f : α → Bool} {l : List α} {k : Nat} {x : α} (e : l[k]? = some x) (h : f x = false) : l.all f = false := by
  cases hq : l.all f with
  | false => rfl
  | true => rw [List.all_eq_true.mp hq x (List.mem_of_getElem? e)] at h; cases h
theorem all_take_succ {α : Type} {f : α → Bool} {l : List α} {k : Nat} {x : α} (e : l[k]? = some x) (h : (l.take k).all f = true) (hx : f x = true) : (l.take (k + 1)).all f = true := by
  rw [List.take_add_one, e, List.all_append, h]; simp [hx]

def Le (H H' : AH) : Prop := ∀ b o, H b = some o → H' b = some o
theorem Le.refl : Le H H := fun _ _ e => e
theorem Le.trans {H1 H2 H3 : AH} (a : Le H1 H2) (b : Le H2 H3) : Le H1 H3 := fun x o e => b x o (a x o e)
theorem Le.loc {a b : AH} (l : Le H a) (q : Loc H a b) : Le H b := fun x o e => q.old (l x o e) e
theorem fn_le {prog : Program} {K : Frag} {f : Addr} {need : Nat} {args : List AV} {v : AV} (x : Fn prog w K f need args H (fun r H' => r = v ∧ Le H H')) : Fn prog w K f need args H (fun r H' => r = v ∧ H' = H) :=
  fun C ρ A s R vs hz ha hr S o k => x C ρ A s R vs hz ha hr S o fun av H' v' h' tk ⟨e, l⟩ ov S' => k av H v' h' tk ⟨e, rfl⟩ ov (S'.less S.sep l fun _ _ q => q)
section mono
variable {H' : AH}
theorem Ty.mono {a : Addr} {n l : Int} {f : Str} {b : AV} {p : Addr} (l' : Le H H') (x : Ty H a n f b l p) : Ty H' a n f b l p := let ⟨d, fs, e, r⟩ := x; ⟨d, fs, l' _ _ e, r⟩
theorem Ob.mono {a : Addr} {k : Str} {r : Bool} {t : AV} (l' : Le H H') (x : Ob H a k r t) : Ob H' a k r t := let ⟨d, fs, e, r⟩ := x; ⟨d, fs, l' _ _ e, r⟩
theorem Nd.mono {a : Addr} {op : Str} {t v : AV} {kids : Addr} (l' : Le H H') (x : Nd H a op t kids v) : Nd H' a op t kids v := let ⟨d, fs, e, r⟩ := x; ⟨d, fs, l' _ _ e, r⟩
theorem SidesOk.mono {os : List Addr} {ps : List (Nat × Nat)} (l' : Le H H') (x : SidesOk H ta os ps) : SidesOk H' ta os ps := by induction x with | nil => exact .nil | cons h _ ih => exact .cons (h.mono l') ih
theorem PairsOk.mono {ts : List Addr} {ps : List (Nat × Nat)} (l' : Le H H') (x : PairsOk H ts ps) : PairsOk H' ts ps := by induction x with | nil => exact .nil | cons h _ ih => exact .cons (l' _ _ h) ih
theorem RawList.mono {a : Addr} {xs : List AV} (l' : Le H H') (x : RawList H a xs) : RawList H' a xs := let ⟨v, n, e, r⟩ := x; ⟨v, n, l' _ _ e, r⟩
theorem ShOk.mono {a : Addr} {s : Sh} (l' : Le H H') (x : ShOk H a s) : ShOk H' a s := by
  cases s with
  | proc sides back => obtain ⟨sl, ts, h1, h2, h3⟩ := x; exact ⟨sl, ts, l' _ _ h1, h2.mono l', h3.mono l'⟩
  | _ => exact l' _ _ x
theorem RowOk.mono {r t : Addr} {s : Sh} (l' : Le H H') (x : RowOk H r t s) : RowOk H' r t s := let ⟨sh, e, q⟩ := x; ⟨sh, l' _ _ e, q.mono l'⟩
theorem WOk.mono (l' : Le H H') (K : WOk H W rows ta num) : WOk H' W rows ta num where
  ty := fun i s e => let ⟨p, h, q⟩ := K.ty i s e; ⟨p, h.mono l', fun a b e => let ⟨os, h1, h2⟩ := q a b e; ⟨os, l' _ _ h1, h2.mono l'⟩⟩
  non := let ⟨p, h⟩ := K.non; ⟨p, h.mono l'⟩
  inj := K.inj
  rows := let ⟨rs, h1, h2, h3⟩ := K.rows; ⟨rs, l' _ _ h1, h2, fun i s r a b => (h3 i s r a b).mono l'⟩
  wf := K.wf
  small := K.small
end mono

/-- the loop over the parameters, given what equal_types does below -/
theorem c_eqp (K : WOk H W rows ta num) {n : Nat} {i j : Nat} {s s' : List (Nat × Nat)} {b b' : Option Nat} (hs : W[i]? = some (.proc s b)) (ht : W[j]? = some (.proc s' b')) (hi : i ≤ n)
    (ih : ∀ H, WOk H W rows ta num → ∀ i j, Valid W i → Valid W j → idx i ≤ n → Fn prg w (MK w.params) 106 (4 * n + 2) [.ref (ta i), .ref (ta j)] H (fun r H' => r = .bool (alikeF W n i j) ∧ H' = H)) :
    Fn prg w (MK w.params) 113 (4 * n + 4) [.ref (ta (some i)), .ref (ta (some j))] H (fun r H' => r = .bool ((s.length == s'.length) && ((s.zip s').all (fun p => (p.1.1 == p.2.1) && alikeF W n (some p.1.2) (some p.2.2)) && alikeF W n b b')) ∧ H' = H) := by
  obtain ⟨p1, x, hx⟩ := K.ty i _ hs
  obtain ⟨p2, y, hy⟩ := K.ty j _ ht
  obtain ⟨os, ho, so⟩ := hx s b rfl
  obtain ⟨os', ho', so'⟩ := hy s' b' rfl
  obtain ⟨w1, w2, w3⟩ := K.wf i _ hs
  obtain ⟨v1, v2, v3⟩ := K.wf j _ ht
  have l1 : (os.map AV.ref).length = s.length := by rw [List.length_map, so.len]
  have l2 : (os'.map AV.ref).length = s'.length := by rw [List.length_map, so'.len]
  have il := get_lt hs
  have jl := get_lt ht
  refine fn_le (fn_def fequal_procs 2 k_equal_procs (binds_pos rfl (by kernel_rfl) (by kernel_rfl) b_eqp) fun A h₀ L r hr => ?_)
  show Exs _ _ _ _ _ _ (_ :: _) _
  refine exs_cons (ex_if (ts_cmp (ev_len 5 rfl ⟨b_len, PyProof.Rows.Boot.len⟩ (ev_params (ev_local 0 rfl rfl) x) ho (by omega)) (ev_len 5 rfl ⟨b_len, PyProof.Rows.Boot.len⟩ (ev_params (ev_local 1 rfl rfl) y) ho' (by omega)) rfl) (fun e => ?_) (fun e => exs_nil ?_))
  · refine exs_cons (ex_ret ev_bool ⟨?_, Le.refl⟩)
    rw [l1, l2] at e
    have : (s.length == s'.length) = false := by
      rw [beq_eq_false_iff_ne]; intro q; rw [q] at e; simp at e
    rw [this]; rfl
  have hlen : s.length = s'.length := by rw [l1, l2] at e; simp at e; omega
  refine exs_cons (ex_for (G := fun m Pi H0 => (m = s.length ∧ H0 = H) ∧ Pi = fun i a => a = .int i) 2 rfl (it_range 6 rfl b_range ((ev_len 5 rfl ⟨b_len, PyProof.Rows.Boot.len⟩ (ev_params (ev_local 0 rfl rfl) x) ho (by omega)).g ⟨s.length, by rw [l1], by omega, rfl, rfl⟩)) ?_)
  rintro m Pi H0 ⟨⟨rfl, e0⟩, rfl⟩
  refine ⟨fun k r a => Le H a ∧ r 0 = some (.ref (ta (some i))) ∧ r 1 = some (.ref (ta (some j))) ∧ ((s.zip s').take k).all (fun p => (p.1.1 == p.2.1) && alikeF W n (some p.1.2) (some p.2.2)) = true, ?_, ?_, ?_, ?_⟩
  · exact ⟨e0 ▸ Le.refl, rfl, rfl, by simp⟩
  · rintro k r a b' lo ⟨q1, q2⟩
    exact ⟨q1.loc (e0 ▸ lo), q2⟩
  · rintro k r a av hk rfl ⟨la, r0, r1, hall⟩
    obtain ⟨p, hp⟩ : ∃ p, s[k]? = some p := ⟨_, List.getElem?_eq_getElem hk⟩
    obtain ⟨q, hq⟩ : ∃ q, s'[k]? = some q := ⟨_, List.getElem?_eq_getElem (hlen ▸ hk)⟩
    obtain ⟨o, ho1, ob⟩ := so.get hp
    obtain ⟨o', ho1', ob'⟩ := so'.get hq
    have hz : (s.zip s')[k]? = some (p, q) := by rw [List.getElem?_zip_eq_some]; exact ⟨hp, hq⟩
    have hpm := w1 p (List.mem_of_getElem? hp)
    have hqm := v1 q (List.mem_of_getElem? hq)
    have gk : (os.map AV.ref)[(k : Int).toNat]? = some (.ref o) := by rw [Int.toNat_natCast, List.getElem?_map, ho1]; rfl
    have gk' : (os'.map AV.ref)[(k : Int).toNat]? = some (.ref o') := by rw [Int.toNat_natCast, List.getElem?_map, ho1']; rfl
    show Exs _ _ _ _ _ _ (_ :: _) _
    refine exs_cons (ex_assignP 3 rfl (ev_sub (ev_params (ev_local 0 rfl r0) (x.mono la)) (ev_local 2 rfl rfl) (.inl (la _ _ ho)) gk (by omega) (by omega)) ?_)
    refine exs_cons (ex_assignP 4 rfl (ev_sub (ev_params (ev_local 1 rfl r1) (y.mono la)) (ev_local 2 rfl rfl) (.inl (la _ _ ho')) gk' (by omega) (by omega)) ?_)
    refine exs_cons (ex_if (ts_or (ts_cmp (ev_kind (ev_local 3 rfl rfl) (ob.mono la)) (ev_kind (ev_local 4 rfl rfl) (ob'.mono la)) rfl) fun _ => ts_or (ts_cmp (ev_ro (ev_local 3 rfl rfl) (ob.mono la)) (ev_ro (ev_local 4 rfl rfl) (ob'.mono la)) rfl) fun _ => ts_or0) (fun e => ?_) (fun e => exs_nil ?_))
    · have hne : (p.1 == q.1) = false := by
        rw [Bool.or_false, kinds_ne hpm.1 hqm.1] at e
        cases h : (p.1 == q.1) with
        | false => rfl
        | true => rw [h] at e; cases e
      refine exs_cons (ex_ret ev_bool ⟨?_, la⟩)
      rw [all_mismatch hz (by show ((p.1 == q.1) && _) = false; rw [hne]; rfl)]
      simp
    have heq : (p.1 == q.1) = true := by
      rw [Bool.or_false, kinds_ne hpm.1 hqm.1] at e
      simpa using e
    have ihk := ih a (K.mono la) (some p.2) (some q.2) (Nat.lt_trans hpm.2 il) (Nat.lt_trans hqm.2 jl) (by show p.2 + 1 ≤ n; omega)
    refine exs_cons (ex_if (ts_not (ts_call (ev_call 7 rfl g_equal_types (.cons (ev_otype (ev_local 3 rfl rfl) (ob.mono la)) rfl (.cons (ev_otype (ev_local 4 rfl rfl) (ob'.mono la)) rfl .nil)) ihk (by show 4 * n + 2 + 2 ≤ _; omega)))) (fun e2 => ?_) (fun e2 => exs_nil (exs_nil ?_)))
    · refine exs_cons (ex_ret ev_bool ⟨?_, la⟩)
      have : alikeF W n (some p.2) (some q.2) = false := by simpa using e2
      rw [all_mismatch hz (by show ((p.1 == q.1) && alikeF W n (some p.2) (some q.2)) = false; rw [this, Bool.and_false])]
      simp
    · have : alikeF W n (some p.2) (some q.2) = true := by simpa using e2
      exact ⟨⟨la, r0, r1, all_take_succ hz hall (by show ((p.1 == q.1) && alikeF W n (some p.2) (some q.2)) = true; rw [this, heq]; rfl)⟩, fun _ _ e => e⟩
  · rintro r a ⟨la, r0, r1, hall⟩
    have hz : (s.zip s').take s.length = s.zip s' := List.take_of_length_le (by rw [List.length_zip]; omega)
    rw [hz] at hall
    have ihb := ih a (K.mono la) b b' (by cases b with | none => trivial | some b => exact Nat.lt_trans (w2 b rfl) il) (by cases b' with | none => trivial | some b' => exact Nat.lt_trans (v2 b' rfl) jl) (by cases b with | none => exact Nat.zero_le _ | some b => have := w2 b rfl; show b + 1 ≤ n; omega)
    refine exs_cons (ex_ret (ev_call 7 rfl g_equal_types (.cons (ev_base (ev_local 0 rfl r0) (x.mono la)) rfl (.cons (ev_base (ev_local 1 rfl r1) (y.mono la)) rfl .nil)) ihb (by show 4 * n + 2 + 2 ≤ _; omega)) ⟨?_, la⟩)
    rw [hall, hlen]; simp
end Mine
namespace Mine
variable {w : World} {H : AH} {W : List Sh} {rows : Addr} {ta : Option Nat → Addr} {num : Option Nat → Int}

theorem alike_arr {n i j : Nat} {c c' : Int} {m m' : Nat} (hij : (some i == some j) = false) (hi : W[i]? = some (.arr c m)) (hj : W[j]? = some (.arr c' m')) (hc : c < 0) (hc' : c' < 0) : alikeF W (n + 1) (some i) (some j) = alikeF W n (some m) (some m') := by
  show ((some i == some j) || (match W[i]?, W[j]? with
      | some (.arr c k), some (.arr c' k') => (decide (c < 0) && decide (c' < 0)) && alikeF W n (some k) (some k')
      | some (.proc s b), some (.proc s' b') => (s.length == s'.length) && ((s.zip s').all (fun p => (p.1.1 == p.2.1) && alikeF W n (some p.1.2) (some p.2.2)) && alikeF W n b b')
      | _, _ => false)) = _
  rw [hij, hi, hj]; simp only [Bool.false_or, decide_eq_true hc, decide_eq_true hc', Bool.true_and]
theorem alike_proc {n i j : Nat} {s s' : List (Nat × Nat)} {b b' : Option Nat} (hij : (some i == some j) = false) (hi : W[i]? = some (.proc s b)) (hj : W[j]? = some (.proc s' b')) : alikeF W (n + 1) (some i) (some j) = ((s.length == s'.length) && ((s.zip s').all (fun p => (p.1.1 == p.2.1) && alikeF W n (some p.1.2) (some p.2.2)) && alikeF W n b b')) := by
  show ((some i == some j) || (match W[i]?, W[j]? with
      | some (.arr c k), some (.arr c' k') => (decide (c < 0) && decide (c' < 0)) && alikeF W n (some k) (some k')
      | some (.proc s b), some (.proc s' b') => (s.length == s'.length) && ((s.zip s').all (fun p => (p.1.1 == p.2.1) && alikeF W n (some p.1.2) (some p.2.2)) && alikeF W n b b')
      | _, _ => false)) = _
  rw [hij, hi, hj]; simp only [Bool.false_or]
theorem c_eqt_step {n : Nat} (ih : ∀ m, n = m + 1 → ∀ (H : AH), WOk H W rows ta num → ∀ i j, Valid W i → Valid W j → idx i ≤ m → Fn prg w (MK w.params) 106 (4 * m + 2) [.ref (ta i), .ref (ta j)] H (fun r H' => r = .bool (alikeF W m i j) ∧ H' = H))
    {H : AH} (K : WOk H W rows ta num) {i j : Option Nat} (vi : Valid W i) (vj : Valid W j) (hn : idx i ≤ n) : Fn prg w (MK w.params) 106 (4 * n + 2) [.ref (ta i), .ref (ta j)] H (fun r H' => r = .bool (alikeF W n i j) ∧ H' = H) := by
    obtain ⟨f1, b1, l1, p1, x⟩ := K.inf vi
    obtain ⟨f2, b2, l2, p2, y⟩ := K.inf vj
    refine fn_def fequal_types 2 k_equal_types (binds_pos rfl (by kernel_rfl) (by kernel_rfl) b_eqt) fun A h₀ L r hr => ?_
    show Exs _ _ _ _ _ _ (_ :: _) _
    refine exs_cons (ex_if (ts_call (ev_call 2 rfl g_same_type (.cons (ev_local 0 rfl rfl) rfl (.cons (ev_local 1 rfl rfl) rfl .nil)) (c_same x.ty y.ty) (by show 0 + 2 ≤ r; omega))) (fun e => ?_) (fun e => exs_nil ?_))
    · have hij := K.inj i j vi vj (beq_iff_eq.mp e)
      exact exs_cons (ex_ret ev_bool ⟨by rw [hij, alike_self], rfl⟩)
    have hij : (i == j) = false := by rw [← K.num_eq vi vj]; exact e
    refine exs_cons (ex_if (ts_and (ts_call (ev_call 3 rfl g_is_open (.cons (ev_local 0 rfl rfl) rfl .nil) (c_isopen x.ty) (by show 0 + 2 ≤ r; omega))) fun _ => ts_and (ts_call (ev_call 3 rfl g_is_open (.cons (ev_local 1 rfl rfl) rfl .nil) (c_isopen y.ty) (by show 0 + 2 ≤ r; omega))) fun _ => ts_and0) (fun e2 => ?_) (fun e2 => exs_nil ?_))
    · simp only [Bool.and_true] at e2
      obtain ⟨e3, e4⟩ := Bool.and_eq_true_iff.mp e2
      obtain ⟨k, c, m, rfl, hk, hc, rfl⟩ := x.op e3
      obtain ⟨k', c', m', rfl, hk', hc', rfl⟩ := y.op e4
      have wm : m < k := K.wf k _ hk
      have wm' : m' < k' := K.wf k' _ hk'
      obtain ⟨n, rfl⟩ : ∃ m, n = m + 1 := ⟨n - 1, by have : k + 1 ≤ n := hn; omega⟩
      have ih := ih n rfl
      · have hn' : k ≤ n := by have : k + 1 ≤ n + 1 := hn; omega
        refine exs_cons (ex_ret (ev_call 4 rfl g_equal_types (.cons (ev_base (ev_local 0 rfl rfl) x.ty) rfl (.cons (ev_base (ev_local 1 rfl rfl) y.ty) rfl .nil)) (ih H K (some m) (some m') (Nat.lt_trans wm vi) (Nat.lt_trans wm' vj) (by show m + 1 ≤ n; omega)) (by show 4 * n + 2 + 2 ≤ r; omega)) ⟨?_, rfl⟩)
        rw [alike_arr hij hk hk' hc hc']
    refine exs_cons (ex_if (ts_and (ts_cmp (ev_form (ev_local 0 rfl rfl) x.ty) ev_str rfl) fun _ => ts_and (ts_cmp (ev_form (ev_local 1 rfl rfl) y.ty) ev_str rfl) fun _ => ts_and0) (fun e3 => ?_) (fun e3 => exs_nil ?_))
    · simp only [Bool.and_true] at e3
      obtain ⟨e4, e5⟩ := Bool.and_eq_true_iff.mp e3
      obtain ⟨k, s, bb, os, rfl, hk, rfl, ho, so⟩ := x.pr e4
      obtain ⟨k', s', bb', os', rfl, hk', rfl, ho', so'⟩ := y.pr e5
      obtain ⟨n, rfl⟩ : ∃ m, n = m + 1 := ⟨n - 1, by have : k + 1 ≤ n := hn; omega⟩
      have ih := ih n rfl
      · have hn' : k ≤ n := by have : k + 1 ≤ n + 1 := hn; omega
        refine exs_cons (ex_ret (ev_call 5 rfl g_equal_procs (.cons (ev_local 0 rfl rfl) rfl (.cons (ev_local 1 rfl rfl) rfl .nil)) (c_eqp K hk hk' hn' ih) (by show 4 * n + 4 + 2 ≤ r; omega)) ⟨?_, rfl⟩)
        rw [alike_proc hij hk hk']
    · refine exs_cons (ex_ret ev_bool ⟨?_, rfl⟩)
      simp only [Bool.and_true] at e2 e3
      have : alikeF W n i j = false := by
        match n with
        | 0 => exact hij
        | n + 1 =>
          unfold alikeF; rw [hij, Bool.false_or]
          match i, j with
          | none, _ => rfl
          | some _, none => rfl
          | some i, some j =>
            simp only
            cases hs : W[i]? with
            | none => rfl
            | some s =>
              cases ht : W[j]? with
              | none => cases s <;> rfl
              | some t =>
                cases s <;> cases t <;> try rfl
                · rename_i c m c' m'
                  simp only
                  by_cases hc : c < 0
                  · by_cases hc' : c' < 0
                    · rw [x.op' i c m rfl hs hc, y.op' j c' m' rfl ht hc'] at e2; cases e2
                    · rw [decide_eq_false hc']; simp
                  · rw [decide_eq_false hc]; simp
                · rw [x.pr' i _ _ rfl hs, y.pr' j _ _ rfl ht] at e3; cases e3
      rw [this]
theorem c_eqt : ∀ (n : Nat) (H : AH), WOk H W rows ta num → ∀ i j, Valid W i → Valid W j → idx i ≤ n → Fn prg w (MK w.params) 106 (4 * n + 2) [.ref (ta i), .ref (ta j)] H (fun r H' => r = .bool (alikeF W n i j) ∧ H' = H) := by
  intro n
  induction n with
  | zero => exact fun H K i j vi vj hn => c_eqt_step (fun m q => by cases q) K vi vj hn
  | succ n ih => exact fun H K i j vi vj hn => c_eqt_step (fun m q => by cases q; exact ih) K vi vj hn
end Mine
namespace Mine
variable {w : World} {H : AH} {W : List Sh} {rows : Addr} {ta : Option Nat → Addr} {num : Option Nat → Int}

def isOpenS (s : Sh) : Bool := (formOf s == ("array" : Str)) && decide (lenOf s < 0)
def innerOf : Sh → Option Nat
  | .arr _ k => some k
  | _ => none
theorem arr_form {s : Sh} (e : (formOf s == ("array" : Str)) = true) : ∃ c k, s = .arr c k := by
  cases s <;> first | exact ⟨_, _, rfl⟩ | (exfalso; revert e; simp only [formOf]; decide)
theorem arr_open {s : Sh} (e : isOpenS s = true) : ∃ c k, s = .arr c k ∧ c < 0 := by
  obtain ⟨e1, e2⟩ := Bool.and_eq_true_iff.mp e
  obtain ⟨c, k, rfl⟩ := arr_form e1
  exact ⟨c, k, rfl, of_decide_eq_true e2⟩
theorem not_t : ∀ {b : Bool}, (!b) = true → b = false := by decide
theorem not_f : ∀ {b : Bool}, (!b) = false → b = true := by decide
theorem inner_ok (K : WOk H W rows ta num) {i k : Nat} {c : Int} (h : W[i]? = some (Sh.arr c k)) : Valid W (some k) ∧ idx (some k) ≤ W.length := by
  have := K.wf i _ h
  have hl := get_lt h
  have h2 : k < i := this
  exact ⟨show k < _ by omega, show k + 1 ≤ _ by omega⟩

def eqaW (W : List Sh) (t s : Sh) : Bool :=
  if ((formOf t != ("array" : Str)) || (formOf s != ("array" : Str))) = true then false
  else if ((lenOf t != lenOf s) && (decide (0 ≤ lenOf t) && decide (0 ≤ lenOf s))) = true then false
  else alikeF W W.length (innerOf t) (innerOf s)
theorem c_eqa (K : WOk H W rows ta num) {i j : Nat} {s t : Sh} (hs : W[i]? = some s) (ht : W[j]? = some t) : Fn prg w (MK w.params) 120 (4 * W.length + 4) [.ref (ta (some j)), .ref (ta (some i))] H (fun r H' => r = .bool (eqaW W t s) ∧ H' = H) := by
  obtain ⟨p1, y, _⟩ := K.ty i s hs
  obtain ⟨p2, x, _⟩ := K.ty j t ht
  refine fn_def fequal_arrays 2 k_equal_arrays (binds_pos rfl (by kernel_rfl) (by kernel_rfl) b_eqa) fun A h₀ L r hr => ?_
  show Exs _ _ _ _ _ _ (_ :: _) _
  refine exs_cons (ex_if (ts_or (ts_cmp (ev_form (ev_local 0 rfl rfl) x) ev_str rfl) fun _ => ts_or (ts_cmp (ev_form (ev_local 1 rfl rfl) y) ev_str rfl) fun _ => ts_or0) (fun e => ?_) (fun e => exs_nil ?_))
  · exact exs_cons (ex_ret ev_bool ⟨by unfold eqaW; rw [Bool.or_false] at e; rw [if_pos e], rfl⟩)
  rw [Bool.or_false] at e
  refine exs_cons (ex_if (ts_and (ts_cmp (ev_length (ev_local 0 rfl rfl) x) (ev_length (ev_local 1 rfl rfl) y) rfl) fun _ => ts_and (ts_cmp (ev_length (ev_local 0 rfl rfl) x) ev_int rfl) fun _ => ts_and (ts_cmp (ev_length (ev_local 1 rfl rfl) y) ev_int rfl) fun _ => ts_and0) (fun e2 => ?_) (fun e2 => exs_nil ?_))
  · rw [Bool.and_true] at e2
    exact exs_cons (ex_ret ev_bool ⟨by unfold eqaW; rw [e]; exact (congrArg AV.bool ((if_neg Bool.false_ne_true).trans (if_pos e2))).symm, rfl⟩)
  rw [Bool.and_true] at e2
  have e3 := e
  rw [Bool.or_eq_false_iff] at e3
  obtain ⟨c, k, rfl⟩ := arr_form (s := t) (by have := e3.1; simpa using this)
  obtain ⟨c', k', rfl⟩ := arr_form (s := s) (by have := e3.2; simpa using this)
  obtain ⟨v1, v2⟩ := inner_ok K ht
  obtain ⟨v3, v4⟩ := inner_ok K hs
  refine exs_cons (ex_ret (ev_call 2 rfl g_equal_types (.cons (ev_base (ev_local 0 rfl rfl) x) rfl (.cons (ev_base (ev_local 1 rfl rfl) y) rfl .nil)) (c_eqt W.length H K (some k) (some k') v1 v3 v2) (by show 4 * W.length + 2 + 2 ≤ r; omega)) ⟨?_, rfl⟩)
  unfold eqaW; rw [e, e2]; rfl
/-- not both are arrays -/
theorem c_eqa_no {a b : Addr} {n1 n2 l1 l2 : Int} {f1 f2 : Str} {b1 b2 : AV} {p1 p2 : Addr} (x : Ty H a n1 f1 b1 l1 p1) (y : Ty H b n2 f2 b2 l2 p2) (no : (f2 != ("array" : Str)) = true) : Fn prg w (MK w.params) 120 0 [.ref a, .ref b] H (fun r H' => r = .bool false ∧ H' = H) := by
  refine fn_def fequal_arrays 2 k_equal_arrays (binds_pos rfl (by kernel_rfl) (by kernel_rfl) b_eqa) fun A h₀ L r hr => ?_
  show Exs _ _ _ _ _ _ (_ :: _) _
  refine exs_cons (ex_if (ts_or (ts_cmp (ev_form (ev_local 0 rfl rfl) x) ev_str rfl) fun _ => ts_or (ts_cmp (ev_form (ev_local 1 rfl rfl) y) ev_str rfl) fun _ => ts_or0) (fun e => ?_) (fun e => exs_nil ?_))
  · exact exs_cons (ex_ret ev_bool ⟨rfl, rfl⟩)
  · rw [no] at e; simp at e

theorem b_asgp : ∀ vs : List Value, vs.length = 2 → bindArgs fassignable_proc.fd ⟨vs, []⟩ = pure (((fassignable_proc.scope.names.take 2).map (·.1)).zip vs) | [a, b], _ => by kernel_rfl
theorem b_asg : ∀ vs : List Value, vs.length = 2 → bindArgs fassignable.fd ⟨vs, []⟩ = pure (((fassignable.scope.names.take 2).map (·.1)).zip vs) | [a, b], _ => by kernel_rfl
theorem b_pv : ∀ vs : List Value, vs.length = 2 → bindArgs fpassable_variable.fd ⟨vs, []⟩ = pure (((fpassable_variable.scope.names.take 2).map (·.1)).zip vs) | [a, b], _ => by kernel_rfl
theorem b_ps : ∀ vs : List Value, vs.length = 2 → bindArgs fpassable_structure.fd ⟨vs, []⟩ = pure (((fpassable_structure.scope.names.take 2).map (·.1)).zip vs) | [a, b], _ => by kernel_rfl
theorem b_pass : ∀ vs : List Value, vs.length = 2 → bindArgs fpassable.fd ⟨vs, []⟩ = pure (((fpassable.scope.names.take 2).map (·.1)).zip vs) | [a, b], _ => by kernel_rfl

def fitsW (W : List Sh) (i j : Nat) (s t : Sh) : Bool :=
  if isOpenS t = true then (formOf s == ("array" : Str)) && alikeF W W.length (innerOf t) (innerOf s)
  else if (formOf t == ("record" : Str)) = true then aboveW W i j else num_eqB i j
where num_eqB (i j : Nat) : Bool := (some j == some i)

def okStr (b : Bool) : Str := if b = true then "" else "incompatible"
def pvW (des ro fits : Bool) : Str := if des = true then (if ro = true then "read_only" else okStr fits) else "not_a_variable"

theorem c_pv (K : WOk H W rows ta num) {i j : Nat} {s t : Sh} (hs : W[i]? = some s) (ht : W[j]? = some t) {node c kids₀ kids : Addr} {op op₀ : Str} {vt v₀ ty v : AV} {n : Nat} {ro : Bool}
    (rt : Root H node c n) (nd : Nd H node op₀ vt kids₀ v₀) (nc : Nd H c op ty kids v) (hro : op = "var" → ∃ o kind ty, v = .ref o ∧ Ob H o kind ro ty) (hv : ((op == ("var" : Str)) || (op == ("deref" : Str))) = true → vt = .ref (ta (some i))) :
    Fn prg w (MK w.params) 148 (4 * W.length + 4) [.ref (ta (some j)), .ref node] H (fun r H' => r = .str (pvW ((op == ("var" : Str)) || (op == ("deref" : Str))) ((op == ("var" : Str)) && ro) (fitsW W i j s t)) ∧ H' = H) := by
  obtain ⟨p1, y, _⟩ := K.ty i s hs
  obtain ⟨p2, x, _⟩ := K.ty j t ht
  refine fn_def fpassable_variable 2 k_passable_variable (binds_pos rfl (by kernel_rfl) (by kernel_rfl) b_pv) fun A h₀ L r hr => ?_
  show Exs _ _ _ _ _ _ (_ :: _) _
  refine exs_cons (ex_if (ts_not (ts_call (ev_call 4 rfl g_is_designator (.cons (ev_local 1 rfl rfl) rfl .nil) (c_desig rt nc) (by show 0 + 2 ≤ r; omega)))) (fun e => ?_) (fun e => exs_nil ?_))
  · have : ((op == ("var" : Str)) || (op == ("deref" : Str))) = false := not_t e
    exact exs_cons (ex_ret ev_str ⟨by rw [this]; rfl, rfl⟩)
  have des : ((op == ("var" : Str)) || (op == ("deref" : Str))) = true := not_f e
  have := hv des; subst this
  rw [des]
  refine exs_cons (ex_if (ts_call (ev_call 5 rfl g_is_readonly (.cons (ev_local 1 rfl rfl) rfl .nil) (c_isro rt nc hro) (by show 2 + 2 ≤ r; omega))) (fun e2 => ?_) (fun e2 => exs_nil ?_))
  · exact exs_cons (ex_ret ev_str ⟨by rw [e2]; rfl, rfl⟩)
  rw [e2]
  refine exs_cons (ex_assignP 2 rfl (ev_ntype (ev_local 1 rfl rfl) nd) ?_)
  have tail : ∀ (ρ : Rho) (e : ρ 3 = some (.bool (fitsW W i j s t))) {pos1 pos2 pos3 pos4 pos5 : Pos} {k1 k2 : Nat}, 
      Exs prg w (MK w.params) (fpassable_variable.cx A h₀ L r) ρ H [.Return (some (.IfExp (.Name "fits" pos1) (.Constant (.str "") k1 pos2) (.Constant (.str "incompatible") k2 pos3) pos4)) pos5] (fun f _ H' => FnR (fun r H' => r = .str (pvW true false (fitsW W i j s t)) ∧ H' = H) f H') :=
    fun ρ e pos1 pos2 pos3 pos4 pos5 k1 k2 => exs_cons (ex_ret (ev_ife (a := .str (okStr (fitsW W i j s t))) (ts_name (ev_local 3 rfl e)) (fun q => by rw [q]; exact ev_str) (fun q => by rw [q]; exact ev_str)) ⟨rfl, rfl⟩)
  refine exs_cons (ex_if (ts_call (ev_call 6 rfl g_is_open (.cons (ev_local 0 rfl rfl) rfl .nil) (c_isopen x) (by show 0 + 2 ≤ r; omega))) (fun e3 => ?_) (fun e3 => ?_))
  · obtain ⟨cc, k, rfl, hc⟩ := arr_open e3
    obtain ⟨v1, v2⟩ := inner_ok K ht
    refine exs_cons (ex_assignP 3 rfl (ev_and (c := alikeF W W.length (some k) (innerOf s)) (ev_cmp (ev_form (ev_local 2 rfl rfl) y) ev_str rfl) fun e4 => ev_bo1 ?_) (exs_nil ?_))
    · obtain ⟨c', k', rfl⟩ := arr_form e4
      obtain ⟨v3, v4⟩ := inner_ok K hs
      exact ev_call 7 rfl g_equal_types (.cons (ev_base (ev_local 0 rfl rfl) x) rfl (.cons (ev_base (ev_local 2 rfl rfl) y) rfl .nil)) (c_eqt W.length H K (some k) (some k') v1 v3 v2) (by show 4 * W.length + 2 + 2 ≤ r; omega)
    · exact tail _ (by unfold fitsW; rw [if_pos (show isOpenS _ = true from e3)]; rfl)
  · refine exs_cons (ex_if (ts_cmp (ev_form (ev_local 0 rfl rfl) x) ev_str rfl) (fun e4 => ?_) (fun e4 => ?_))
    · refine exs_cons (ex_assignP 3 rfl (ev_call 8 rfl g_extends (.cons (ev_local 2 rfl rfl) rfl (.cons (ev_local 0 rfl rfl) rfl .nil)) (c_extends K hs ht) (by show 2 + 2 ≤ r; omega)) (exs_nil (exs_nil ?_)))
      exact tail _ (by unfold fitsW; rw [if_neg (by rw [show isOpenS _ = false from e3]; exact Bool.false_ne_true), if_pos e4]; rfl)
    · refine exs_cons (ex_assignP 3 rfl (ev_call 9 rfl g_same_type (.cons (ev_local 0 rfl rfl) rfl (.cons (ev_local 2 rfl rfl) rfl .nil)) (c_same x y) (by show 0 + 2 ≤ r; omega)) (exs_nil (exs_nil ?_)))
      exact tail _ (by unfold fitsW; rw [if_neg (by rw [show isOpenS _ = false from e3]; exact Bool.false_ne_true), if_neg (by rw [e4]; exact Bool.false_ne_true)]; exact congrArg (fun b => some (AV.bool b)) (K.num_eq (i := some j) (j := some i) (get_lt ht) (get_lt hs)))
end Mine
namespace Mine
variable {w : World} {H : AH} {W : List Sh} {rows : Addr} {ta : Option Nat → Addr} {num : Option Nat → Int}

theorem form_ne_string (s : Sh) : (formOf s == ("string" : Str)) = false := by cases s <;> (simp only [formOf]; decide)
theorem form_ne_none (s : Sh) : (formOf s != ("none" : Str)) = true := by cases s <;> (simp only [formOf]; decide)
def isIntS (s : Sh) : Bool := (formOf s == ("integer" : Str)) || (formOf s == ("byte" : Str))
def asgW (W : List Sh) (i j : Nat) (s t : Sh) : Str :=
  if (some j == some i) = true then "" else if (isIntS t && isIntS s) = true then "" else if (formOf s == ("nil" : Str)) = true then okStr ((formOf t == ("pointer" : Str)) || (formOf t == ("proc" : Str)))
  else if (aboveW W i j || eqaW W t s) = true then "" else "incompatible"
def bothProc (s t : Sh) : Bool := (formOf t == ("proc" : Str)) && (formOf s == ("proc" : Str))

theorem proc_form {s : Sh} (e : (formOf s == ("proc" : Str)) = true) : ∃ c k, s = .proc c k := by
  cases s <;> first | exact ⟨_, _, rfl⟩ | (exfalso; revert e; simp only [formOf]; decide)
theorem c_asgp (K : WOk H W rows ta num) {i j : Nat} {s t : Sh} (hs : W[i]? = some s) (ht : W[j]? = some t) (bp : bothProc s t = true) {node kids₀ : Addr} {v₀ : AV} (nd : Nd H node "var" (.ref (ta (some i))) kids₀ v₀) :
    Fn prg w (MK w.params) 134 (4 * W.length + 6) [.ref (ta (some j)), .ref node] H (fun r H' => (∃ x, r = .str x) ∧ H' = H) := by
  obtain ⟨e1, e2⟩ := Bool.and_eq_true_iff.mp bp
  obtain ⟨c, k, rfl⟩ := proc_form e1
  obtain ⟨c', k', rfl⟩ := proc_form e2
  refine fn_def fassignable_proc 2 k_assignable_proc (binds_pos rfl (by kernel_rfl) (by kernel_rfl) b_asgp) fun A h₀ L r hr => ?_
  show Exs _ _ _ _ _ _ (_ :: _) _
  refine exs_cons (ex_if (ts_and (c := false) (ts_cmp (ev_op (ev_local 1 rfl rfl) nd) ev_str rfl) fun q => absurd q (by decide)) (fun e => absurd e (by decide)) (fun e => exs_nil ?_))
  obtain ⟨bb, Y⟩ : ∃ bb, Fn prg w (MK w.params) 113 (4 * W.length + 4) [.ref (ta (some j)), .ref (ta (some i))] H (fun r H' => r = .bool bb ∧ H' = H) := ⟨_, c_eqp K ht hs (Nat.le_of_lt (get_lt ht)) fun H K i j a b c => c_eqt W.length H K i j a b c⟩
  refine exs_cons (ex_ret (av := .str (okStr bb)) (ev_ife (ts_call (ev_call 2 rfl g_equal_procs (.cons (ev_local 0 rfl rfl) rfl (.cons (ev_ntype (ev_local 1 rfl rfl) nd) rfl .nil)) Y (by show 4 * W.length + 4 + 2 ≤ r; omega))) (fun q => ?_) (fun q => ?_)) ⟨⟨_, rfl⟩, rfl⟩)
  · rw [q]; exact ev_str
  · rw [q]; exact ev_str

theorem c_asg (K : WOk H W rows ta num) {i j : Nat} {s t : Sh} (hs : W[i]? = some s) (ht : W[j]? = some t) {node kids₀ : Addr} {v₀ : AV} (nd : Nd H node "var" (.ref (ta (some i))) kids₀ v₀) :
    Fn prg w (MK w.params) 141 (4 * W.length + 8) [.ref (ta (some j)), .ref node] H (fun r H' => (∃ x, r = .str x ∧ (bothProc s t = false → x = asgW W i j s t)) ∧ H' = H) := by
  obtain ⟨p1, y, _⟩ := K.ty i s hs
  obtain ⟨p2, x, _⟩ := K.ty j t ht
  refine fn_def fassignable 2 k_assignable (binds_pos rfl (by kernel_rfl) (by kernel_rfl) b_asg) fun A h₀ L r hr => ?_
  show Exs _ _ _ _ _ _ (_ :: _) _
  refine exs_cons (ex_assignP 2 rfl (ev_ntype (ev_local 1 rfl rfl) nd) ?_)
  refine exs_cons (ex_if (ts_and (ts_cmp (ev_form (ev_local 0 rfl rfl) x) ev_str rfl) fun _ => ts_and (ts_cmp (ev_form (ev_local 2 rfl rfl) y) ev_str rfl) fun _ => ts_and0) (fun e => ?_) (fun e => exs_nil ?_))
  · rw [Bool.and_true] at e
    refine exs_cons (ex_retG (ev_callG (P1 := fun l h => l = [.ref (ta (some j)), .ref node] ∧ h = H) (P := fun r H' => (∃ x, r = .str x) ∧ H' = H) (need := 4 * W.length + 6) 3 rfl g_assignable_proc ((EvLP.cons (ev_local 0 rfl rfl) rfl (.cons (ev_local 1 rfl rfl) rfl .nil)).l ⟨rfl, rfl⟩) (fun l h1 ⟨e1, e2⟩ => by rw [e1, e2]; exact c_asgp K hs ht e nd) (by show 4 * W.length + 6 + 2 ≤ r; omega)) ?_)
    rintro av H' ⟨⟨z, rfl⟩, rfl⟩
    exact ⟨⟨z, rfl, fun q => by rw [show bothProc s t = true from e] at q; cases q⟩, rfl⟩
  rw [Bool.and_true] at e
  have hn := K.num_eq (i := some j) (j := some i) (get_lt ht) (get_lt hs)
  refine exs_cons (ex_if (ts_call (ev_call 4 rfl g_same_type (.cons (ev_local 0 rfl rfl) rfl (.cons (ev_local 2 rfl rfl) rfl .nil)) (c_same x y) (by show 0 + 2 ≤ r; omega))) (fun e2 => ?_) (fun e2 => exs_nil ?_))
  · rw [hn] at e2
    refine exs_cons (ex_ret (av := .str "") (ev_ife (ts_cmp (ev_form (ev_local 0 rfl rfl) x) ev_str rfl) (fun _ => ev_str) fun q => ?_) ⟨⟨_, rfl, fun _ => by unfold asgW; rw [if_pos e2]⟩, rfl⟩)
    rw [form_ne_none] at q; cases q
  rw [hn] at e2
  refine exs_cons (ex_if (ts_and (ts_call (ev_call 5 rfl g_is_integer (.cons (ev_local 0 rfl rfl) rfl .nil) (c_isint x) (by show 0 + 2 ≤ r; omega))) fun _ => ts_and (ts_call (ev_call 5 rfl g_is_integer (.cons (ev_local 2 rfl rfl) rfl .nil) (c_isint y) (by show 0 + 2 ≤ r; omega))) fun _ => ts_and0) (fun e3 => ?_) (fun e3 => exs_nil ?_))
  · rw [Bool.and_true] at e3
    exact exs_cons (ex_ret ev_str ⟨⟨_, rfl, fun _ => by unfold asgW; rw [e2, if_neg Bool.false_ne_true, if_pos (show (isIntS t && isIntS s) = true from e3)]⟩, rfl⟩)
  rw [Bool.and_true] at e3
  replace e3 : (isIntS t && isIntS s) = false := e3
  refine exs_cons (ex_if (ts_cmp (ev_form (ev_local 2 rfl rfl) y) ev_str rfl) (fun e4 => ?_) (fun e4 => exs_nil ?_))
  · refine exs_cons (ex_ret (av := .str (okStr ((formOf t == ("pointer" : Str)) || (formOf t == ("proc" : Str))))) (ev_ife (ts_or (ts_cmp (ev_form (ev_local 0 rfl rfl) x) ev_str rfl) fun _ => ts_or (ts_cmp (ev_form (ev_local 0 rfl rfl) x) ev_str rfl) fun _ => ts_or0) (fun q => ?_) (fun q => ?_)) ⟨⟨_, rfl, fun _ => by unfold asgW; rw [e2, e3, if_neg Bool.false_ne_true, if_neg Bool.false_ne_true, if_pos e4]⟩, rfl⟩)
    · rw [Bool.or_false] at q; rw [q]; exact ev_str
    · rw [Bool.or_false] at q; rw [q]; exact ev_str
  refine exs_cons (ex_if (ts_cmp (ev_form (ev_local 2 rfl rfl) y) ev_str rfl) (fun e5 => ?_) (fun e5 => exs_nil ?_))
  · rw [form_ne_string] at e5; cases e5
  refine exs_cons (ex_if (ts_or (ts_call (ev_call 7 rfl g_extends (.cons (ev_local 2 rfl rfl) rfl (.cons (ev_local 0 rfl rfl) rfl .nil)) (c_extends K hs ht) (by show 2 + 2 ≤ r; omega))) fun _ => ts_or (ts_call (ev_call 8 rfl g_equal_arrays (.cons (ev_local 0 rfl rfl) rfl (.cons (ev_local 2 rfl rfl) rfl .nil)) (c_eqa K hs ht) (by show 4 * W.length + 4 + 2 ≤ r; omega))) fun _ => ts_or0) (fun e6 => ?_) (fun e6 => exs_nil ?_))
  · rw [Bool.or_false] at e6
    exact exs_cons (ex_ret ev_str ⟨⟨_, rfl, fun _ => by unfold asgW; rw [e2, e3, e4, if_neg Bool.false_ne_true, if_neg Bool.false_ne_true, if_neg Bool.false_ne_true, if_pos e6]⟩, rfl⟩)
  · rw [Bool.or_false] at e6
    exact exs_cons (ex_ret ev_str ⟨⟨_, rfl, fun _ => by unfold asgW; rw [e2, e3, e4, if_neg Bool.false_ne_true, if_neg Bool.false_ne_true, if_neg Bool.false_ne_true, e6, if_neg Bool.false_ne_true]⟩, rfl⟩)

def fitsS (W : List Sh) (i j : Nat) (s t : Sh) : Bool :=
  if isOpenS t = true then (formOf s == ("array" : Str)) && alikeF W W.length (innerOf t) (innerOf s)
  else if (formOf t == ("record" : Str)) = true then aboveW W i j else (some j == some i) || (eqaW W t s && (lenOf s == lenOf t))
theorem c_ps (K : WOk H W rows ta num) {i j : Nat} {s t : Sh} (hs : W[i]? = some s) (ht : W[j]? = some t) {node kids₀ : Addr} {op₀ : Str} {v₀ : AV} (nd : Nd H node op₀ (.ref (ta (some i))) kids₀ v₀) :
    Fn prg w (MK w.params) 155 (4 * W.length + 6) [.ref (ta (some j)), .ref node] H (fun r H' => r = .str (okStr (fitsS W i j s t)) ∧ H' = H) := by
  obtain ⟨p1, y, _⟩ := K.ty i s hs
  obtain ⟨p2, x, _⟩ := K.ty j t ht
  refine fn_def fpassable_structure 2 k_passable_structure (binds_pos rfl (by kernel_rfl) (by kernel_rfl) b_ps) fun A h₀ L r hr => ?_
  show Exs _ _ _ _ _ _ (_ :: _) _
  refine exs_cons (ex_assignP 2 rfl (ev_ntype (ev_local 1 rfl rfl) nd) ?_)
  have tail : ∀ (ρ : Rho) (e : ρ 3 = some (.bool (fitsS W i j s t))) {pos1 pos2 pos3 pos4 pos5 : Pos} {k1 k2 : Nat}, 
      Exs prg w (MK w.params) (fpassable_structure.cx A h₀ L r) ρ H [.Return (some (.IfExp (.Name "fits" pos1) (.Constant (.str "") k1 pos2) (.Constant (.str "incompatible") k2 pos3) pos4)) pos5] (fun f _ H' => FnR (fun r H' => r = .str (okStr (fitsS W i j s t)) ∧ H' = H) f H') :=
    fun ρ e pos1 pos2 pos3 pos4 pos5 k1 k2 => exs_cons (ex_ret (ev_ife (a := .str (okStr (fitsS W i j s t))) (ts_name (ev_local 3 rfl e)) (fun q => by rw [q]; exact ev_str) (fun q => by rw [q]; exact ev_str)) ⟨rfl, rfl⟩)
  refine exs_cons (ex_if (ts_call (ev_call 4 rfl g_is_open (.cons (ev_local 0 rfl rfl) rfl .nil) (c_isopen x) (by show 0 + 2 ≤ r; omega))) (fun e3 => ?_) (fun e3 => ?_))
  · obtain ⟨cc, k, rfl, hc⟩ := arr_open e3
    obtain ⟨v1, v2⟩ := inner_ok K ht
    refine exs_cons (ex_if (ts_cmp (ev_form (ev_local 2 rfl rfl) y) ev_str rfl) (fun q => by rw [form_ne_string] at q; cases q) (fun _ => exs_nil ?_))
    refine exs_cons (ex_assignP 3 rfl (ev_and (c := alikeF W W.length (some k) (innerOf s)) (ev_cmp (ev_form (ev_local 2 rfl rfl) y) ev_str rfl) fun e4 => ev_bo1 ?_) (exs_nil ?_))
    · obtain ⟨c', k', rfl⟩ := arr_form e4
      obtain ⟨v3, v4⟩ := inner_ok K hs
      exact ev_call 5 rfl g_equal_types (.cons (ev_base (ev_local 0 rfl rfl) x) rfl (.cons (ev_base (ev_local 2 rfl rfl) y) rfl .nil)) (c_eqt W.length H K (some k) (some k') v1 v3 v2) (by show 4 * W.length + 2 + 2 ≤ r; omega)
    · exact tail _ (by unfold fitsS; rw [if_pos (show isOpenS _ = true from e3)]; rfl)
  · refine exs_cons (ex_if (ts_cmp (ev_form (ev_local 0 rfl rfl) x) ev_str rfl) (fun e4 => ?_) (fun e4 => ?_))
    · refine exs_cons (ex_assignP 3 rfl (ev_call 6 rfl g_extends (.cons (ev_local 2 rfl rfl) rfl (.cons (ev_local 0 rfl rfl) rfl .nil)) (c_extends K hs ht) (by show 2 + 2 ≤ r; omega)) (exs_nil (exs_nil ?_)))
      exact tail _ (by unfold fitsS; rw [if_neg (by rw [show isOpenS _ = false from e3]; exact Bool.false_ne_true), if_pos e4]; rfl)
    · refine exs_cons (ex_assignP 3 rfl (ev_or (ev_call 7 rfl g_same_type (.cons (ev_local 0 rfl rfl) rfl (.cons (ev_local 2 rfl rfl) rfl .nil)) (c_same x y) (by show 0 + 2 ≤ r; omega)) fun _ => ev_bo1 (ev_and (ev_call 8 rfl g_equal_arrays (.cons (ev_local 0 rfl rfl) rfl (.cons (ev_local 2 rfl rfl) rfl .nil)) (c_eqa K hs ht) (by show 4 * W.length + 4 + 2 ≤ r; omega)) fun _ => ev_bo1 (ev_cmp (ev_length (ev_local 2 rfl rfl) y) (ev_length (ev_local 0 rfl rfl) x) rfl))) (exs_nil (exs_nil ?_)))
      exact tail _ (by unfold fitsS; rw [if_neg (by rw [show isOpenS _ = false from e3]; exact Bool.false_ne_true), if_neg (by rw [e4]; exact Bool.false_ne_true)]; exact congrArg (fun b => some (AV.bool (b || _))) (K.num_eq (i := some j) (j := some i) (get_lt ht) (get_lt hs)))
end Mine
namespace Mine
variable {w : World} {H : AH} {W : List Sh} {rows : Addr} {ta : Option Nat → Addr} {num : Option Nat → Int}

/-- a text for a structured parameter -/
theorem c_ps_str (K : WOk H W rows ta num) {j : Nat} {t : Sh} (ht : W[j]? = some t) {node kids₀ b : Addr} {op₀ : Str} {v₀ bs : AV} {nb lb : Int} {pb : Addr} (nd : Nd H node op₀ (.ref b) kids₀ v₀)
    (y : Ty H b nb "string" bs lb pb) (hn : (num (some j) == nb) = false) :
    Fn prg w (MK w.params) 155 4 [.ref (ta (some j)), .ref node] H (fun r H' => r = .str (okStr (isOpenS t && (innerOf t).any fun m => W[m]?.any fun s => formOf s == ("char" : Str))) ∧ H' = H) := by
  obtain ⟨p2, x, _⟩ := K.ty j t ht
  refine fn_def fpassable_structure 2 k_passable_structure (binds_pos rfl (by kernel_rfl) (by kernel_rfl) b_ps) fun A h₀ L r hr => ?_
  show Exs _ _ _ _ _ _ (_ :: _) _
  refine exs_cons (ex_assignP 2 rfl (ev_ntype (ev_local 1 rfl rfl) nd) ?_)
  have tail : ∀ (ρ : Rho) (e : ρ 3 = some (.bool false)) {pos1 pos2 pos3 pos4 pos5 : Pos} {k1 k2 : Nat}, isOpenS t = false →
      Exs prg w (MK w.params) (fpassable_structure.cx A h₀ L r) ρ H [.Return (some (.IfExp (.Name "fits" pos1) (.Constant (.str "") k1 pos2) (.Constant (.str "incompatible") k2 pos3) pos4)) pos5] (fun f _ H' => FnR (fun r H' => r = .str (okStr (isOpenS t && (innerOf t).any fun m => W[m]?.any fun s => formOf s == ("char" : Str))) ∧ H' = H) f H') :=
    fun ρ e pos1 pos2 pos3 pos4 pos5 k1 k2 no => exs_cons (ex_ret (ev_ife (a := .str (okStr false)) (ts_name (ev_local 3 rfl e)) (fun q => by cases q) (fun q => ev_str)) ⟨by rw [no]; rfl, rfl⟩)
  refine exs_cons (ex_if (ts_call (ev_call 4 rfl g_is_open (.cons (ev_local 0 rfl rfl) rfl .nil) (c_isopen x) (by show 0 + 2 ≤ r; omega))) (fun e3 => ?_) (fun e3 => ?_))
  · obtain ⟨cc, k, rfl, hc⟩ := arr_open e3
    obtain ⟨v1, v2⟩ := inner_ok K ht
    obtain ⟨u, hu⟩ : ∃ u, W[k]? = some u := ⟨_, List.getElem?_eq_getElem v1⟩
    obtain ⟨pu, z, _⟩ := K.ty k u hu
    refine exs_cons (ex_if (ts_cmp (ev_form (ev_local 2 rfl rfl) y) ev_str rfl) (fun _ => ?_) (fun q => absurd q (by decide)))
    refine exs_cons (ex_ret (av := .str (okStr (formOf u == ("char" : Str)))) (ev_ife (ts_cmp (ev_bform (ev_local 0 rfl rfl) x z) ev_str rfl) (fun q => by rw [q]; exact ev_str) (fun q => by rw [q]; exact ev_str)) ⟨?_, rfl⟩)
    rw [show isOpenS _ = true from e3, Bool.true_and]
    show AV.str (okStr (formOf u == "char")) = AV.str (okStr (W[k]?.any fun s => formOf s == "char"))
    rw [hu]; rfl
  · have no : isOpenS t = false := e3
    refine exs_cons (ex_if (ts_cmp (ev_form (ev_local 0 rfl rfl) x) ev_str rfl) (fun e4 => ?_) (fun e4 => ?_))
    · refine exs_cons (ex_assignP 3 rfl (av := .bool false) (ev_call 6 rfl g_extends (.cons (ev_local 2 rfl rfl) rfl (.cons (ev_local 0 rfl rfl) rfl .nil)) ?_ (show 0 + 2 ≤ r by omega)) (exs_nil (exs_nil (tail _ rfl no))))
      refine fn_def fextends 2 k_extends (binds_pos rfl (by kernel_rfl) (by kernel_rfl) b_extends) fun A h₀ L r hr => ?_
      show Exs _ _ _ _ _ _ (_ :: _) _
      refine exs_cons (ex_if (ts_cmp (ev_form (ev_local 0 rfl rfl) y) (ev_form (ev_local 1 rfl rfl) x) rfl) (fun e => ?_) (fun e => ?_))
      · exact exs_cons (ex_ret ev_bool ⟨rfl, rfl⟩)
      · rw [beq_iff_eq.mp e4] at e; exact absurd e (by decide)
    · refine exs_cons (ex_assignP 3 rfl (av := .bool false) ?_ (exs_nil (exs_nil (tail _ rfl no))))
      refine ev_or (b := false) (c := false) (hn ▸ ev_call 7 rfl g_same_type (.cons (ev_local 0 rfl rfl) rfl (.cons (ev_local 2 rfl rfl) rfl .nil)) (c_same x y) (by show 0 + 2 ≤ r; omega)) fun _ => ev_bo1 ?_
      exact ev_and (b := false) (c := false) (ev_call 8 rfl g_equal_arrays (.cons (ev_local 0 rfl rfl) rfl (.cons (ev_local 2 rfl rfl) rfl .nil)) (c_eqa_no x y (by decide)) (by show 0 + 2 ≤ r; omega)) fun q => by cases q

/-- the three ways of passable -/
theorem c_pass_v {par node t : Addr} {n : Nat} {P : AV → AH → Prop} (ob : Ob H par "par" false (.ref t)) (Y : Fn prg w (MK w.params) 148 n [.ref t, .ref node] H P) : Fn prg w (MK w.params) 162 (n + 2) [.ref par, .ref node] H P := by
  refine fn_def fpassable 2 k_passable (binds_pos rfl (by kernel_rfl) (by kernel_rfl) b_pass) fun A h₀ L r hr => ?_
  show Exs _ _ _ _ _ _ (_ :: _) _
  refine exs_cons (ex_if (c := true) (ts_and (b := true) (ts_cmp (ev_kind (ev_local 0 rfl rfl) ob) ev_str rfl) fun _ => ts_and (b := true) (ts_not (b := false) (ts_attr (ev_ro (ev_local 0 rfl rfl) ob))) fun _ => ts_and0) (fun _ => ?_) (fun q => by cases q))
  exact exs_cons (ex_retG (ev_callG (P1 := fun l h => l = [.ref t, .ref node] ∧ h = H) (P := P) (need := n) 2 rfl g_passable_variable ((EvLP.cons (ev_otype (ev_local 0 rfl rfl) ob) rfl (.cons (ev_local 1 rfl rfl) rfl .nil)).l ⟨rfl, rfl⟩) (fun l h1 ⟨e1, e2⟩ => by rw [e1, e2]; exact Y) hr) fun _ _ p => p)
theorem c_pass_s {par node t : Addr} {n : Nat} {P : AV → AH → Prop} (ob : Ob H par "par" true (.ref t)) (Y : Fn prg w (MK w.params) 155 n [.ref t, .ref node] H P) : Fn prg w (MK w.params) 162 (n + 2) [.ref par, .ref node] H P := by
  refine fn_def fpassable 2 k_passable (binds_pos rfl (by kernel_rfl) (by kernel_rfl) b_pass) fun A h₀ L r hr => ?_
  show Exs _ _ _ _ _ _ (_ :: _) _
  refine exs_cons (ex_if (c := false) (ts_and (b := true) (ts_cmp (ev_kind (ev_local 0 rfl rfl) ob) ev_str rfl) fun _ => ts_and (b := false) (ts_not (b := true) (ts_attr (ev_ro (ev_local 0 rfl rfl) ob))) fun _ => ts_and0) (fun q => by cases q) (fun _ => exs_nil ?_))
  refine exs_cons (ex_if (ts_cmp (ev_kind (ev_local 0 rfl rfl) ob) ev_str rfl) (fun _ => ?_) (fun q => absurd q (by decide)))
  exact exs_cons (ex_retG (ev_callG (P1 := fun l h => l = [.ref t, .ref node] ∧ h = H) (P := P) (need := n) 3 rfl g_passable_structure ((EvLP.cons (ev_otype (ev_local 0 rfl rfl) ob) rfl (.cons (ev_local 1 rfl rfl) rfl .nil)).l ⟨rfl, rfl⟩) (fun l h1 ⟨e1, e2⟩ => by rw [e1, e2]; exact Y) hr) fun _ _ p => p)
theorem c_pass_a {par node t : Addr} {n : Nat} {P : AV → AH → Prop} {ro : Bool} (ob : Ob H par "var" ro (.ref t)) (Y : Fn prg w (MK w.params) 141 n [.ref t, .ref node] H P) : Fn prg w (MK w.params) 162 (n + 2) [.ref par, .ref node] H P := by
  refine fn_def fpassable 2 k_passable (binds_pos rfl (by kernel_rfl) (by kernel_rfl) b_pass) fun A h₀ L r hr => ?_
  show Exs _ _ _ _ _ _ (_ :: _) _
  refine exs_cons (ex_if (c := false) (ts_and (b := false) (c := false) (ts_cmp (ev_kind (ev_local 0 rfl rfl) ob) ev_str rfl) fun q => by cases q) (fun q => by cases q) (fun _ => exs_nil ?_))
  refine exs_cons (ex_if (ts_cmp (ev_kind (ev_local 0 rfl rfl) ob) ev_str rfl) (fun q => absurd q (by decide)) (fun _ => exs_nil ?_))
  exact exs_cons (ex_retG (ev_callG (P1 := fun l h => l = [.ref t, .ref node] ∧ h = H) (P := P) (need := n) 4 rfl g_assignable ((EvLP.cons (ev_otype (ev_local 0 rfl rfl) ob) rfl (.cons (ev_local 1 rfl rfl) rfl .nil)).l ⟨rfl, rfl⟩) (fun l h1 ⟨e1, e2⟩ => by rw [e1, e2]; exact Y) hr) fun _ _ p => p)
end Mine
namespace Mine
variable {w : World} {H : AH} {W : List Sh} {rows : Addr} {ta : Option Nat → Addr} {num : Option Nat → Int} {C : Cx} {ρ : Rho}

structure Row (H : AH) (rows : Addr) (i : Nat) (t sh : Addr) : Prop where
  at_ : ∃ (rs : List Addr) (r : Addr), H rows = some (.list (rs.map .ref)) ∧ rs[i]? = some r ∧ H r = some (.tup [.ref t, .ref sh]) ∧ rs.length ≤ 40
theorem WOk.row (K : WOk H W rows ta num) {i : Nat} {s : Sh} (hs : W[i]? = some s) : ∃ sh, Row H rows i (ta (some i)) sh ∧ ShOk H sh s := by
  obtain ⟨rs, h1, h2, h3⟩ := K.rows
  obtain ⟨r, hr⟩ : ∃ r, rs[i]? = some r := ⟨_, List.getElem?_eq_getElem (h2 ▸ get_lt hs)⟩
  obtain ⟨sh, e, q⟩ := h3 i s r hs hr
  exact ⟨sh, ⟨rs, r, h1, hr, e, h2 ▸ K.small⟩, q⟩
theorem Row.mono {H' : AH} {i : Nat} {t sh : Addr} (l : Le H H') (R : Row H rows i t sh) : Row H' rows i t sh := let ⟨⟨rs, r, h1, h2, h3, h4⟩⟩ := R; ⟨⟨rs, r, l _ _ h1, h2, l _ _ h3, h4⟩⟩
section
variable {i : Nat} {t sh : Addr} {e1 e2 : PySem.Expr} {p1 p2 : Pos} {k : Nat} {kp : Pos}
theorem ev_row (R : Row H rows i t sh) (X : EvP prg w (MK w.params) C ρ H e1 (.ref rows)) (Y : EvP prg w (MK w.params) C ρ H e2 (.int i)) (hq : ∀ o i, subscripted e2 false o i = operate [o, i] (getItem o i) := by intro _ _; rfl) : ∃ r, EvP prg w (MK w.params) C ρ H (.Subscript e1 e2 p1) (.ref r) ∧ H r = some (.tup [.ref t, .ref sh]) := by
  obtain ⟨⟨rs, r, h1, h2, h3, h4⟩⟩ := R
  have := (List.getElem?_eq_some_iff.mp h2).1
  exact ⟨r, ev_sub X Y (.inl h1) (by rw [Int.toNat_natCast, List.getElem?_map, h2]; rfl) (by omega) (by omega) hq, h3⟩
theorem ev_row0 (R : Row H rows i t sh) (X : EvP prg w (MK w.params) C ρ H e1 (.ref rows)) (Y : EvP prg w (MK w.params) C ρ H e2 (.int i)) (hq : ∀ o i, subscripted e2 false o i = operate [o, i] (getItem o i) := by intro _ _; rfl) : EvP prg w (MK w.params) C ρ H (.Subscript (.Subscript e1 e2 p1) (.Constant (.int 0) k kp) p2) (.ref t) := by
  obtain ⟨r, Z, h⟩ := ev_row (p1 := p1) R X Y hq
  exact ev_sub Z ev_int (.inr h) rfl (by decide) (by decide)
theorem ev_row1 (R : Row H rows i t sh) (X : EvP prg w (MK w.params) C ρ H e1 (.ref rows)) (Y : EvP prg w (MK w.params) C ρ H e2 (.int i)) (hq : ∀ o i, subscripted e2 false o i = operate [o, i] (getItem o i) := by intro _ _; rfl) : EvP prg w (MK w.params) C ρ H (.Subscript (.Subscript e1 e2 p1) (.Constant (.int 1) k kp) p2) (.ref sh) := by
  obtain ⟨r, Z, h⟩ := ev_row (p1 := p1) R X Y hq
  exact ev_sub Z ev_int (.inr h) rfl (by decide) (by decide)
theorem ShOk.tag {s : Sh} (q : ShOk H sh s) : ∃ r, H sh = some (.tup (.str (tagOf s) :: r)) := by
  cases s with
  | proc a b => obtain ⟨_, _, h, _⟩ := q; exact ⟨_, h⟩
  | _ => exact ⟨_, q⟩
theorem ev_tag {s : Sh} (q : ShOk H sh s) (X : EvP prg w (MK w.params) C ρ H e1 (.ref sh)) : EvP prg w (MK w.params) C ρ H (.Subscript e1 (.Constant (.int 0) k kp) p1) (.str (tagOf s)) := by
  obtain ⟨r, h⟩ := q.tag
  exact ev_sub X ev_int (.inr h) rfl (by decide) (by decide)
theorem ev_t1 {a b : AV} {r : List AV} (h : H sh = some (.tup (a :: b :: r))) (X : EvP prg w (MK w.params) C ρ H e1 (.ref sh)) : EvP prg w (MK w.params) C ρ H (.Subscript e1 (.Constant (.int 1) k kp) p1) b := ev_sub X ev_int (.inr h) rfl (by decide) (by decide)
theorem ev_t0 {a : AV} {r : List AV} (h : H sh = some (.tup (a :: r))) (X : EvP prg w (MK w.params) C ρ H e1 (.ref sh)) : EvP prg w (MK w.params) C ρ H (.Subscript e1 (.Constant (.int 0) k kp) p1) a := ev_sub X ev_int (.inr h) rfl (by decide) (by decide)
theorem ev_t2 {a b c : AV} {r : List AV} (h : H sh = some (.tup (a :: b :: c :: r))) (X : EvP prg w (MK w.params) C ρ H e1 (.ref sh)) : EvP prg w (MK w.params) C ρ H (.Subscript e1 (.Constant (.int 2) k kp) p1) c := ev_sub X ev_int (.inr h) rfl (by decide) (by decide)
end

theorem b_lab : ∀ vs : List Value, vs.length = 3 → bindArgs flaw_above.fd ⟨vs, []⟩ = pure (((flaw_above.scope.names.take 3).map (·.1)).zip vs) | [a, b, c], _ => by kernel_rfl
theorem b_lal : ∀ vs : List Value, vs.length = 3 → bindArgs flaw_alike.fd ⟨vs, []⟩ = pure (((flaw_alike.scope.names.take 3).map (·.1)).zip vs) | [a, b, c], _ => by kernel_rfl
theorem b_lfi : ∀ vs : List Value, vs.length = 3 → bindArgs flaw_fits.fd ⟨vs, []⟩ = pure (((flaw_fits.scope.names.take 3).map (·.1)).zip vs) | [a, b, c], _ => by kernel_rfl

theorem lab_no {i j : Nat} {s t : Sh} (hs : W[i]? = some s) (ht : W[j]? = some t) (e : ((tagOf s != tagOf t) || !(["rec", "ptr"] : List Str).any (· == tagOf s)) = true) : aboveW W i j = false := by
  unfold aboveW; rw [hs, ht]
  cases s <;> cases t <;> first | rfl | (exfalso; revert e; simp only [tagOf]; decide)
theorem lab_yes {i j : Nat} {s t : Sh} (hs : W[i]? = some s) (ht : W[j]? = some t) (e : ((tagOf s != tagOf t) || !(["rec", "ptr"] : List Str).any (· == tagOf s)) = false) :
    (∃ h k, s = .ptr h ∧ t = .ptr k ∧ aboveW W i j = climb W W.length h k) ∨ (∃ h k, s = .rcd h ∧ t = .rcd k ∧ aboveW W i j = climb W W.length i j) := by
  cases s <;> cases t <;> first
    | (exfalso; revert e; simp only [tagOf]; decide)
    | (rename_i a b; exact .inl ⟨a, b, rfl, rfl, by unfold aboveW; rw [hs, ht]⟩)
    | (rename_i a b; exact .inr ⟨a, b, rfl, rfl, by unfold aboveW; rw [hs, ht]⟩)

theorem c_lab_ (K : WOk H W rows ta num) {i j : Nat} {s t : Sh} (hs : W[i]? = some s) (ht : W[j]? = some t) {n : Nat} (ih : ∀ h k, s = .ptr h → t = .ptr k → n = 2 ∧ Fn prg w (MK w.params) 275 0 [.ref rows, .int h, .int k] H (fun r H' => r = .bool (climb W W.length h k) ∧ H' = H)) :
    Fn prg w (MK w.params) 275 n [.ref rows, .int i, .int j] H (fun r H' => r = .bool (aboveW W i j) ∧ H' = H) := by
  obtain ⟨si, ri, oi⟩ := K.row hs
  obtain ⟨sj, rj, oj⟩ := K.row ht
  refine fn_def flaw_above 3 k_law_above (binds_pos rfl (by kernel_rfl) (by kernel_rfl) b_lab) fun A h₀ L r hr => ?_
  show Exs _ _ _ _ _ _ (_ :: _) _
  refine exs_cons (ex_two 3 4 rfl rfl (.cons (ev_row1 ri (ev_local 0 rfl rfl) (ev_local 1 rfl rfl)) rfl (.cons (ev_row1 rj (ev_local 0 rfl rfl) (ev_local 2 rfl rfl)) rfl .nil)) ?_)
  refine exs_cons (ex_if (ts_or (ts_cmp (ev_tag oi (ev_local 3 rfl rfl)) (ev_tag oj (ev_local 4 rfl rfl)) rfl) fun _ => ts_or (ts_notin ["rec", "ptr"] (ev_tag oi (ev_local 3 rfl rfl)) (.cons ev_str rfl (.cons ev_str rfl .nil))) fun _ => ts_or0) (fun e => ?_) (fun e => exs_nil ?_))
  · rw [Bool.or_false] at e
    exact exs_cons (ex_ret ev_bool ⟨by rw [lab_no hs ht e], rfl⟩)
  rw [Bool.or_false] at e
  rcases lab_yes hs ht e with ⟨h, k, rfl, rfl, e2⟩ | ⟨h, k, rfl, rfl, e2⟩
  · obtain ⟨rfl, Y⟩ := ih h k rfl rfl
    refine exs_cons (ex_if (ts_cmp (ev_tag oi (ev_local 3 rfl rfl)) ev_str rfl) (fun _ => ?_) (fun q => absurd q (by simp only [tagOf]; decide)))
    exact exs_cons (ex_ret (ev_call 5 rfl g_law_above (.cons (ev_local 0 rfl rfl) rfl (.cons (ev_t1 oi (ev_local 3 rfl rfl)) rfl (.cons (ev_t1 oj (ev_local 4 rfl rfl)) rfl .nil))) Y hr) ⟨by rw [e2], rfl⟩)
  refine exs_cons (ex_if (ts_cmp (ev_tag oi (ev_local 3 rfl rfl)) ev_str rfl) (fun q => absurd q (by simp only [tagOf]; decide)) (fun _ => exs_nil ?_))
  rw [e2]
  refine exs_cons (ex_while (fun n r a => a = H ∧ r 0 = some (.ref rows) ∧ r 2 = some (.int j) ∧ ((∃ (p' : Nat) (ra' : Option Nat), r 1 = some (.int p') ∧ W[p']? = some (.rcd ra') ∧ p' < n ∧ climb W W.length p' j = climb W W.length i j) ∨ (r 1 = some (.int (-1)) ∧ climb W W.length i j = false))) (i + 1)
    ⟨rfl, rfl, rfl, .inl ⟨i, h, rfl, hs, Nat.lt_succ_self _, rfl⟩⟩ ?_)
  rintro n r _ ⟨rfl, r0, r2, ⟨p', ra', r1, hp', hn, hc⟩ | ⟨r1, hc⟩⟩
  · refine ⟨true, ts_cmp (a := .int p') (b := .int 0) (ev_local 1 rfl r1) ev_int (congrArg some (decide_eq_true (Int.natCast_nonneg p'))), fun q => (by cases q), fun _ => ?_⟩
    have hl := get_lt hp'
    obtain ⟨m, hm⟩ : ∃ m, W.length = m + 1 := ⟨W.length - 1, by omega⟩
    obtain ⟨sp, rp, op⟩ := K.row hp'
    show Exs _ _ _ _ _ _ (_ :: _) _
    refine exs_cons (ex_if (ts_cmp (ev_local 1 rfl r1) (ev_local 2 rfl r2) rfl) (fun e4 => ?_) (fun e4 => exs_nil ?_))
    · have hpq : p' = j := Int.ofNat.inj (beq_iff_eq.mp e4)
      refine exs_cons (ex_ret ev_bool ⟨?_, rfl⟩)
      rw [← hc, hpq, hm]; unfold climb; simp
    · have hpq : (p' == j) = false := by
        rw [beq_eq_false_iff_ne] at e4 ⊢; exact fun q => e4 (by rw [q])
      refine exs_cons (ex_assignP 1 rfl (ev_t1 op (ev_row1 rp (ev_local 0 rfl r0) (ev_local 1 rfl r1))) (exs_nil ⟨n - 1, by omega, rfl, r0, r2, ?_⟩))
      cases ra' with
      | none =>
        refine .inr ⟨rfl, ?_⟩
        rw [← hc, hm]; unfold climb; rw [hpq, hp']; rfl
      | some a =>
        obtain ⟨wa, rb', hb'⟩ := K.wf p' _ hp'
        refine .inl ⟨a, rb', rfl, hb', by omega, ?_⟩
        rw [← hc, hm]
        rw [show climb W (m + 1) p' j = climb W m a j by conv => lhs; unfold climb; rw [hpq, hp']; simp]
        exact climb_fuel K.wf a _ _ (by omega) (by omega)
  · exact ⟨false, ts_cmp (a := .int (-1)) (b := .int 0) (ev_local 1 rfl r1) ev_int rfl, fun _ => exs_cons (ex_ret ev_bool ⟨by rw [hc], rfl⟩), fun q => by cases q⟩
theorem c_lab (K : WOk H W rows ta num) {i j : Nat} {s t : Sh} (hs : W[i]? = some s) (ht : W[j]? = some t) : Fn prg w (MK w.params) 275 2 [.ref rows, .int i, .int j] H (fun r H' => r = .bool (aboveW W i j) ∧ H' = H) := by
  refine c_lab_ K hs ht fun h k es et => ⟨rfl, ?_⟩
  subst es et
  obtain ⟨_, a, ha⟩ := K.wf i _ hs
  obtain ⟨_, b, hb⟩ := K.wf j _ ht
  have := c_lab_ (w := w) K (n := 0) ha hb (fun _ _ q => by cases q)
  rwa [show aboveW W h k = climb W W.length h k by unfold aboveW; rw [ha, hb]] at this
end Mine
namespace Mine
variable {w : World} {H : AH} {W : List Sh} {rows : Addr} {ta : Option Nat → Addr} {num : Option Nat → Int} {C : Cx} {ρ : Rho}

def sidesN : Sh → Int
  | .proc s _ => s.length
  | _ => 0
theorem arr_tag {s : Sh} (e : (tagOf s == ("arr" : Str)) = true) : ∃ c k, s = .arr c k := by
  cases s <;> first | exact ⟨_, _, rfl⟩ | (exfalso; revert e; simp only [tagOf]; decide)
theorem proc_tag {s : Sh} (e : (tagOf s != ("proc" : Str)) = false) : ∃ c k, s = .proc c k := by
  cases s <;> first | exact ⟨_, _, rfl⟩ | (exfalso; revert e; simp only [tagOf]; decide)
def bothOpen (s t : Sh) : Bool := (tagOf s == ("arr" : Str)) && ((tagOf t == ("arr" : Str)) && (decide (lenOf s < 0) && (decide (lenOf t < 0) && true)))
def notProcs (s t : Sh) : Bool := (tagOf s != ("proc" : Str)) || ((tagOf t != ("proc" : Str)) || ((sidesN s != sidesN t) || false))
theorem alike_no {n i j : Nat} {s t : Sh} (hij : (some i == some j) = false) (hs : W[i]? = some s) (ht : W[j]? = some t) (e1 : bothOpen s t = false) (e2 : notProcs s t = true) : alikeF W (n + 1) (some i) (some j) = false := by
  show ((some i == some j) || (match W[i]?, W[j]? with
      | some (.arr c k), some (.arr c' k') => (decide (c < 0) && decide (c' < 0)) && alikeF W n (some k) (some k')
      | some (.proc s b), some (.proc s' b') => (s.length == s'.length) && ((s.zip s').all (fun p => (p.1.1 == p.2.1) && alikeF W n (some p.1.2) (some p.2.2)) && alikeF W n b b')
      | _, _ => false)) = _
  rw [hij, hs, ht, Bool.false_or]
  cases s <;> cases t <;> try rfl
  · rename_i c k c' k'
    have : (decide (c < 0) && (decide (c' < 0) && true)) = false := e1
    rw [Bool.and_true] at this
    simp only [this, Bool.false_and]
  · rename_i c k c' k'
    have : ((((c.length : Int) != (c'.length : Int)) || false)) = true := e2
    rw [Bool.or_false] at this
    have : (c.length == c'.length) = false := by
      rw [beq_eq_false_iff_ne]; intro q; rw [q] at this; simp at this
    simp only [this, Bool.false_and]

theorem idxI_eq (i j : Option Nat) : (idxI i == idxI j) = (i == j) := by
  rw [Bool.eq_iff_iff, beq_iff_eq, beq_iff_eq]
  cases i <;> cases j <;> simp [idxI] <;> omega
theorem alike_none {n : Nat} {i j : Option Nat} (e : (i == j) = false) (h : i = none ∨ j = none) : alikeF W n i j = false := by
  cases n with
  | zero => exact e
  | succ n =>
    unfold alikeF
    rcases h with rfl | rfl
    · rw [e]; rfl
    · rw [e]; cases i <;> rfl

theorem c_lal_step {n : Nat} (ih : ∀ m, n = m + 1 → ∀ (H : AH), WOk H W rows ta num → ∀ i j, Valid W i → Valid W j → idx i ≤ m → Fn prg w (MK w.params) 268 (2 * m) [.ref rows, .int (idxI i), .int (idxI j)] H (fun r H' => r = .bool (alikeF W m i j) ∧ H' = H))
    {H : AH} (K : WOk H W rows ta num) {i j : Option Nat} (vi : Valid W i) (vj : Valid W j) (hn : idx i ≤ n) : Fn prg w (MK w.params) 268 (2 * n) [.ref rows, .int (idxI i), .int (idxI j)] H (fun r H' => r = .bool (alikeF W n i j) ∧ H' = H) := by
  refine fn_le (fn_def flaw_alike 3 k_law_alike (binds_pos rfl (by kernel_rfl) (by kernel_rfl) b_lal) fun A h₀ L r hr => ?_)
  show Exs _ _ _ _ _ _ (_ :: _) _
  refine exs_cons (ex_if (ts_cmp (ev_local 1 rfl rfl) (ev_local 2 rfl rfl) rfl) (fun e => ?_) (fun e => exs_nil ?_))
  · rw [idxI_eq] at e
    exact exs_cons (ex_ret ev_bool ⟨by rw [beq_iff_eq.mp e, alike_self], Le.refl⟩)
  rw [idxI_eq] at e
  refine exs_cons (ex_if (ts_or (ts_cmp (ev_local 1 rfl rfl) ev_int rfl) fun _ => ts_or (ts_cmp (ev_local 2 rfl rfl) ev_int rfl) fun _ => ts_or0) (fun e2 => ?_) (fun e2 => exs_nil ?_))
  · refine exs_cons (ex_ret ev_bool ⟨?_, Le.refl⟩)
    rw [alike_none e]
    cases i with
    | none => exact .inl rfl
    | some i =>
      cases j with
      | none => exact .inr rfl
      | some j => have e3 : (decide ((i : Int) < 0) || (decide ((j : Int) < 0) || false)) = true := e2; rw [decide_eq_false (by omega), decide_eq_false (by omega)] at e3; cases e3
  obtain ⟨i, rfl⟩ : ∃ k, i = some k := by cases i with | none => exact absurd e2 (by simp [idxI]) | some i => exact ⟨i, rfl⟩
  obtain ⟨j, rfl⟩ : ∃ k, j = some k := by cases j with | none => exact absurd e2 (by simp [idxI]) | some i => exact ⟨i, rfl⟩
  obtain ⟨n, rfl⟩ : ∃ m, n = m + 1 := ⟨n - 1, by have : i + 1 ≤ n := hn; omega⟩
  have ih := ih n rfl
  have hn' : i ≤ n := by have : i + 1 ≤ n + 1 := hn; omega
  obtain ⟨s, hs⟩ : ∃ s, W[i]? = some s := ⟨_, List.getElem?_eq_getElem vi⟩
  obtain ⟨t, ht⟩ : ∃ s, W[j]? = some s := ⟨_, List.getElem?_eq_getElem vj⟩
  obtain ⟨si, ri, oi⟩ := K.row hs
  obtain ⟨sj, rj, oj⟩ := K.row ht
  refine exs_cons (ex_two 3 4 rfl rfl (.cons (ev_row1 ri (ev_local 0 rfl rfl) (ev_local 1 rfl rfl)) rfl (.cons (ev_row1 rj (ev_local 0 rfl rfl) (ev_local 2 rfl rfl)) rfl .nil)) ?_)
  refine exs_cons (ex_if (c := bothOpen s t) (ts_and (ts_cmp (ev_tag oi (ev_local 3 rfl rfl)) ev_str rfl) fun q1 => ts_and (ts_cmp (ev_tag oj (ev_local 4 rfl rfl)) ev_str rfl) fun q2 => ts_and (b := decide (lenOf s < 0)) ?_ fun _ => ts_and (b := decide (lenOf t < 0)) ?_ fun _ => ts_and0) (fun e3 => ?_) (fun e3 => exs_nil ?_))
  · obtain ⟨c, k, rfl⟩ := arr_tag q1
    exact ts_cmp (ev_t1 oi (ev_local 3 rfl rfl)) ev_int rfl
  · obtain ⟨c, k, rfl⟩ := arr_tag q2
    exact ts_cmp (ev_t1 oj (ev_local 4 rfl rfl)) ev_int rfl
  · obtain ⟨q1, q2⟩ := Bool.and_eq_true_iff.mp e3
    obtain ⟨q5, q3⟩ := Bool.and_eq_true_iff.mp q2
    obtain ⟨q6, q4⟩ := Bool.and_eq_true_iff.mp q3
    rw [Bool.and_true] at q4
    obtain ⟨c, k, rfl⟩ := arr_tag q1
    obtain ⟨c', k', rfl⟩ := arr_tag q5
    have wm : k < i := K.wf i _ hs
    have wm' : k' < j := K.wf j _ ht
    exact exs_cons (ex_ret (ev_call 7 rfl g_law_alike (.cons (ev_local 0 rfl rfl) rfl (.cons (ev_t2 oi (ev_local 3 rfl rfl)) rfl (.cons (ev_t2 oj (ev_local 4 rfl rfl)) rfl .nil))) (ih H K (some k) (some k') (Nat.lt_trans wm vi) (Nat.lt_trans wm' vj) (by show k + 1 ≤ n; omega)) (by show 2 * n + 2 ≤ r; omega)) ⟨by rw [alike_arr e hs ht (of_decide_eq_true q6) (of_decide_eq_true q4)], Le.refl⟩)
  refine exs_cons (ex_if (c := notProcs s t) (ts_or (ts_cmp (ev_tag oi (ev_local 3 rfl rfl)) ev_str rfl) fun q1 => ts_or (ts_cmp (ev_tag oj (ev_local 4 rfl rfl)) ev_str rfl) fun q2 => ts_or (b := (sidesN s != sidesN t)) ?_ fun _ => ts_or0) (fun e4 => ?_) (fun e4 => exs_nil ?_))
  · obtain ⟨c, k, rfl⟩ := proc_tag q1
    obtain ⟨c', k', rfl⟩ := proc_tag q2
    obtain ⟨w1, w2, w3⟩ := K.wf i _ hs
    obtain ⟨v1, v2, v3⟩ := K.wf j _ ht
    obtain ⟨sl, ts, h1, h2, h3⟩ := oi
    obtain ⟨sl', ts', h1', h2', h3'⟩ := oj
    have l1 : (ts.map AV.ref).length = c.length := by rw [List.length_map, h3.len]
    have l2 : (ts'.map AV.ref).length = c'.length := by rw [List.length_map, h3'.len]
    refine ts_cmp (ev_lenR 8 rfl b_len (ev_t1 h1 (ev_local 3 rfl rfl)) h2 (by omega)) (ev_lenR 8 rfl b_len (ev_t1 h1' (ev_local 4 rfl rfl)) h2' (by omega)) ?_
    show some (((ts.map AV.ref).length : Int) != ((ts'.map AV.ref).length : Int)) = _
    rw [l1, l2]; rfl
  · exact exs_cons (ex_ret ev_bool ⟨by rw [alike_no e hs ht e3 e4], Le.refl⟩)
  · obtain ⟨q1, q2⟩ := Bool.or_eq_false_iff.mp e4
    obtain ⟨q5, q3⟩ := Bool.or_eq_false_iff.mp q2
    rw [Bool.or_false] at q3
    obtain ⟨c, b, rfl⟩ := proc_tag q1
    obtain ⟨c', b', rfl⟩ := proc_tag q5
    have hlen : c.length = c'.length := by
      have : ((c.length : Int) != (c'.length : Int)) = false := q3
      simp at this; omega
    obtain ⟨w1, w2, w3⟩ := K.wf i _ hs
    obtain ⟨v1, v2, v3⟩ := K.wf j _ ht
    obtain ⟨sl, ts, h1, h2, h3⟩ := oi
    obtain ⟨sl', ts', h1', h2', h3'⟩ := oj
    have l1 : (ts.map AV.ref).length = c.length := by rw [List.length_map, h3.len]
    have l2 : (ts'.map AV.ref).length = c'.length := by rw [List.length_map, h3'.len]
    rw [alike_proc e hs ht]
    refine exs_cons (ex_forzip 5 6 9 rfl rfl rfl b_zip (.cons (ev_t1 h1 (ev_local 3 rfl rfl)) rfl (.cons (ev_t1 h1' (ev_local 4 rfl rfl)) rfl .nil)) h2 h2' (fun k r a => Le H a ∧ r 0 = some (.ref rows) ∧ r 3 = some (.ref si) ∧ r 4 = some (.ref sj) ∧ ((c.zip c').take k).all (fun p => (p.1.1 == p.2.1) && alikeF W n (some p.1.2) (some p.2.2)) = true) ⟨Le.refl, rfl, rfl, rfl, by simp⟩ ?_ ?_ ?_)
    · rintro k r a b' lo ⟨q1, q2⟩
      exact ⟨q1.loc lo, q2⟩
    · rintro k r a u v hu hv ⟨la, r0, r3, r4, hall⟩
      have hk : k < c.length := by rw [← l1]; exact (List.getElem?_eq_some_iff.mp hu).1
      obtain ⟨p, hp⟩ : ∃ p, c[k]? = some p := ⟨_, List.getElem?_eq_getElem hk⟩
      obtain ⟨q, hq⟩ : ∃ q, c'[k]? = some q := ⟨_, List.getElem?_eq_getElem (hlen ▸ hk)⟩
      obtain ⟨o, ho1, ob⟩ := h3.get hp
      obtain ⟨o', ho1', ob'⟩ := h3'.get hq
      rw [List.getElem?_map, ho1] at hu; cases hu
      rw [List.getElem?_map, ho1'] at hv; cases hv
      have hz : (c.zip c')[k]? = some (p, q) := by rw [List.getElem?_zip_eq_some]; exact ⟨hp, hq⟩
      have hpm := w1 p (List.mem_of_getElem? hp)
      have hqm := v1 q (List.mem_of_getElem? hq)
      have ihk := ih a (K.mono la) (some p.2) (some q.2) (Nat.lt_trans hpm.2 vi) (Nat.lt_trans hqm.2 vj) (by show p.2 + 1 ≤ n; omega)
      show Exs _ _ _ _ _ _ (_ :: _) _
      refine exs_cons (ex_if (ts_or (ts_cmp (ev_t0 (la _ _ ob) (ev_local 5 rfl rfl)) (ev_t0 (la _ _ ob') (ev_local 6 rfl rfl)) rfl) fun _ => ts_or (ts_not (ts_call (ev_call 7 rfl g_law_alike (.cons (ev_local 0 rfl r0) rfl (.cons (ev_t1 (la _ _ ob) (ev_local 5 rfl rfl)) rfl (.cons (ev_t1 (la _ _ ob') (ev_local 6 rfl rfl)) rfl .nil))) ihk (by show 2 * n + 2 ≤ _; omega)))) fun _ => ts_or0) (fun e5 => ?_) (fun e5 => exs_nil (exs_nil ?_)))
      · refine exs_cons (ex_ret ev_bool ⟨?_, la⟩)
        have : ((p.1 == q.1) && alikeF W n (some p.2) (some q.2)) = false := by
          rw [Bool.or_false] at e5
          have h4 : ((p.1 : Int) != (q.1 : Int)) = !(p.1 == q.1) := by
            show (!((p.1 : Int) == (q.1 : Int))) = _
            congr 1; rw [Bool.eq_iff_iff, beq_iff_eq, beq_iff_eq]; omega
          rw [h4, ← Bool.not_and] at e5
          exact not_t e5
        rw [all_mismatch hz this]
        simp
      · have : ((p.1 == q.1) && alikeF W n (some p.2) (some q.2)) = true := by
          rw [Bool.or_false] at e5
          have h4 : ((p.1 : Int) != (q.1 : Int)) = !(p.1 == q.1) := by
            show (!((p.1 : Int) == (q.1 : Int))) = _
            congr 1; rw [Bool.eq_iff_iff, beq_iff_eq, beq_iff_eq]; omega
          rw [h4, ← Bool.not_and] at e5
          exact not_f e5
        exact ⟨⟨la, r0, r3, r4, all_take_succ hz hall this⟩, fun _ _ e => e⟩
    · rintro r a ⟨la, r0, r3, r4, hall⟩
      have hz : (c.zip c').take (min (ts.map AV.ref).length (ts'.map AV.ref).length) = c.zip c' := List.take_of_length_le (by rw [List.length_zip, l1, l2]; omega)
      rw [hz] at hall
      have ihb := ih a (K.mono la) b b' (by cases b with | none => trivial | some b => exact Nat.lt_trans (w2 b rfl) vi) (by cases b' with | none => trivial | some b' => exact Nat.lt_trans (v2 b' rfl) vj) (by cases b with | none => exact Nat.zero_le _ | some b => have := w2 b rfl; show b + 1 ≤ n; omega)
      refine exs_cons (ex_ret (ev_call 7 rfl g_law_alike (.cons (ev_local 0 rfl r0) rfl (.cons (ev_t2 (la _ _ h1) (ev_local 3 rfl r3)) rfl (.cons (ev_t2 (la _ _ h1') (ev_local 4 rfl r4)) rfl .nil))) ihb (by show 2 * n + 2 ≤ _; omega)) ⟨?_, la⟩)
      rw [hall, hlen]; simp
theorem c_lal : ∀ (n : Nat) (H : AH), WOk H W rows ta num → ∀ i j, Valid W i → Valid W j → idx i ≤ n → Fn prg w (MK w.params) 268 (2 * n) [.ref rows, .int (idxI i), .int (idxI j)] H (fun r H' => r = .bool (alikeF W n i j) ∧ H' = H) := by
  intro n
  induction n with
  | zero => exact fun H K i j vi vj hn => c_lal_step (fun m q => by cases q) K vi vj hn
  | succ n ih => exact fun H K i j vi vj hn => c_lal_step (fun m q => by cases q; exact ih) K vi vj hn

/-- what the law calls fitting, the openness first -/
def lfitW (W : List Sh) (i j : Nat) (s t : Sh) : Bool :=
  if isOpenS t = true then (tagOf s == ("arr" : Str)) && alikeF W W.length (innerOf t) (innerOf s)
  else if (tagOf t == ("rec" : Str)) = true then aboveW W i j else (j : Int) == i
theorem form_tag_arr (s : Sh) : (formOf s == ("array" : Str)) = (tagOf s == ("arr" : Str)) := by cases s <;> (simp only [formOf, tagOf]; decide)
theorem form_tag_rec (s : Sh) : (formOf s == ("record" : Str)) = (tagOf s == ("rec" : Str)) := by cases s <;> (simp only [formOf, tagOf]; decide)
theorem c_lfi (K : WOk H W rows ta num) {i j : Nat} {s t : Sh} (hs : W[i]? = some s) (ht : W[j]? = some t) : Fn prg w (MK w.params) 289 (2 * W.length + 4) [.ref rows, .int j, .int i] H (fun r H' => r = .bool (lfitW W i j s t) ∧ H' = H) := by
  obtain ⟨si, ri, oi⟩ := K.row hs
  obtain ⟨sj, rj, oj⟩ := K.row ht
  refine fn_def flaw_fits 3 k_law_fits (binds_pos rfl (by kernel_rfl) (by kernel_rfl) b_lfi) fun A h₀ L r hr => ?_
  show Exs _ _ _ _ _ _ (_ :: _) _
  refine exs_cons (ex_two 3 4 rfl rfl (.cons (ev_row1 rj (ev_local 0 rfl rfl) (ev_local 1 rfl rfl)) rfl (.cons (ev_row1 ri (ev_local 0 rfl rfl) (ev_local 2 rfl rfl)) rfl .nil)) ?_)
  refine exs_cons (ex_if (c := (tagOf t == ("arr" : Str)) && (decide (lenOf t < 0) && true)) (ts_and (ts_cmp (ev_tag oj (ev_local 3 rfl rfl)) ev_str rfl) fun q1 => ts_and (b := decide (lenOf t < 0)) ?_ fun _ => ts_and0) (fun e => ?_) (fun e => exs_nil ?_))
  · obtain ⟨c, k, rfl⟩ := arr_tag q1
    exact ts_cmp (ev_t1 oj (ev_local 3 rfl rfl)) ev_int rfl
  · rw [Bool.and_true, ← form_tag_arr] at e
    have op : isOpenS t = true := e
    obtain ⟨c, k, rfl, hc⟩ := arr_open op
    obtain ⟨v1, v2⟩ := inner_ok K ht
    refine exs_cons (ex_ret (ev_and (c := alikeF W W.length (some k) (innerOf s)) (ev_cmp (ev_tag oi (ev_local 4 rfl rfl)) ev_str rfl) fun q2 => ev_bo1 ?_) ⟨by unfold lfitW; rw [if_pos op]; rfl, rfl⟩)
    obtain ⟨c', k', rfl⟩ := arr_tag q2
    obtain ⟨v3, v4⟩ := inner_ok K hs
    exact ev_call 5 rfl g_law_alike (.cons (ev_local 0 rfl rfl) rfl (.cons (ev_t2 oj (ev_local 3 rfl rfl)) rfl (.cons (ev_t2 oi (ev_local 4 rfl rfl)) rfl .nil))) (c_lal W.length H K (some k) (some k') v1 v3 v2) (by show 2 * W.length + 2 ≤ r; omega)
  · rw [Bool.and_true, ← form_tag_arr] at e
    have op : isOpenS t = false := e
    refine exs_cons (ex_if (ts_cmp (ev_tag oj (ev_local 3 rfl rfl)) ev_str rfl) (fun e4 => ?_) (fun e4 => exs_nil ?_))
    · exact exs_cons (ex_ret (ev_call 6 rfl g_law_above (.cons (ev_local 0 rfl rfl) rfl (.cons (ev_local 2 rfl rfl) rfl (.cons (ev_local 1 rfl rfl) rfl .nil))) (c_lab K hs ht) (by show 2 + 2 ≤ r; omega)) ⟨by unfold lfitW; rw [op, if_neg Bool.false_ne_true, if_pos e4], rfl⟩)
    · exact exs_cons (ex_ret (ev_cmp (ev_local 1 rfl rfl) (ev_local 2 rfl rfl) rfl) ⟨by unfold lfitW; rw [op, if_neg Bool.false_ne_true, e4, if_neg Bool.false_ne_true], rfl⟩)
end Mine
namespace Mine
variable {w : World} {H H' : AH} {C : Cx} {ρ : Rho} {K : Frag} {prog : Program}

/-- all but the named places stay -/
def LeB (m : List Addr) (H H' : AH) : Prop := ∀ b o, b ∉ m → H b = some o → H' b = some o
theorem LeB.refl {m : List Addr} : LeB m H H := fun _ _ _ e => e
theorem LeB.trans {m : List Addr} {H1 H2 H3 : AH} (a : LeB m H1 H2) (b : LeB m H2 H3) : LeB m H1 H3 := fun x o n e => b x o n (a x o n e)
theorem LeB.more {m m' : List Addr} {H1 H2 : AH} (a : LeB m H1 H2) (k : ∀ b ∈ m, b ∈ m') : LeB m' H1 H2 := fun x o n e => a x o (fun q => n (k _ q)) e
theorem LeB.set {m : List Addr} {a : Addr} {o : AO} (h : a ∈ m) : LeB m H (H.set a o) := fun b _ n e => by rw [AH.set_ne (by rintro rfl; exact n h)]; exact e
theorem LeB.new {m : List Addr} {a : Addr} {o : AO} (h : H a = none) : LeB m H (H.set a o) := fun b _ n e => AH.set_keep h e
/-- what is new in H' may be altered later -/
theorem LeB.newer {m : List Addr} {a : Addr} {H1 H2 : AH} (h : H1 a = none) (x : LeB (a :: m) H1 H2) : LeB m H1 H2 := fun b o n e => x b o (fun q => by
  rcases List.mem_cons.mp q with rfl | q
  · rw [h] at e; cases e
  · exact n q) e
theorem LeB.kr {m : List Addr} {H1 H2 : AH} (x : LeB m H1 H2) (n : ∀ b ∈ m, ∀ o, H1 b ≠ some (.raw o)) : KR H1 H2 := fun b o e => x b _ (fun q => n b q _ e) e
theorem LeB.le {H1 H2 : AH} (x : LeB [] H1 H2) : Le H1 H2 := fun b o e => x b o (by simp) e

/-- an object in the making -/
structure Ini (x d cls : Addr) (H0 : AH) (fs : List (Str × AV)) (L : List (Addr × AO)) (n : Nat) (H : AH) : Prop where
  len : fs.length ≤ n
  self : H x = some (.inst cls d fs)
  le : LeB [x] H0 H
  own : ∀ p ∈ L, H p.1 = some p.2 ∧ H0 p.1 = none ∧ p.1 ≠ x
theorem Ini.start {x d cls : Addr} (h : H x = some (.inst cls d [])) : Ini x d cls H [] [] 0 H := ⟨Nat.le_refl _, h, LeB.refl, fun _ q => by cases q⟩
theorem ex_ini {o e : PySem.Expr} {name : Str} {tp pos : Pos} {x d cls : Addr} {fs : List (Str × AV)} {L : List (Addr × AO)} {H0 : AH} {n : Nat} {av : AV} {R : AF → Rho → AH → Prop} (I : Ini x d cls H0 fs L n H) (O : EvP prog w K C ρ H o (.ref x)) (X : EvP prog w K C ρ H e av)
    (ok : setOk K cls name = true) (hz : n < 1000) (r : ∀ H', Ini x d cls H0 (putF name av fs) L (n + 1) H' → R .next ρ H')
    (hsw : swapsWith e (some (.Attribute o name tp)) pos.line C.env = pure false := by rfl) : Ex1 prog w K C ρ H (.Assign [.Attribute o name tp] e pos) R := by
  refine ex_setattr (a := x) (d := d) (P := fun a h => a = av ∧ h = H) (X.g ⟨rfl, rfl⟩) (fun a h p => ?_) ok (Nat.lt_of_le_of_lt I.len hz) hsw
  obtain ⟨rfl, rfl⟩ := p
  refine ⟨O, I.self, r _ ⟨Nat.le_trans (putF_length _ _ _) (Nat.succ_le_succ I.len), AH.set_self, I.le.trans (LeB.set (by simp)), fun p hp => ?_⟩⟩
  obtain ⟨h1, h2, h3⟩ := I.own p hp
  exact ⟨by rw [AH.set_ne h3]; exact h1, h2, h3⟩
theorem ex_iniL {o : PySem.Expr} {name : Str} {tp lp pos : Pos} {x d cls : Addr} {fs : List (Str × AV)} {L : List (Addr × AO)} {H0 : AH} {n : Nat} {R : AF → Rho → AH → Prop} (I : Ini x d cls H0 fs L n H) (O : ∀ H, EvP prog w K C ρ H o (.ref x))
    (ok : setOk K cls name = true) (hz : n < 1000) (r : ∀ H' l, Ini x d cls H0 (putF name (.ref l) fs) ((l, .list []) :: L) (n + 1) H' → R .next ρ H')
    (hsw : swapsWith (.List [] lp) (some (.Attribute o name tp)) pos.line C.env = pure false := by rfl) : Ex1 prog w K C ρ H (.Assign [.Attribute o name tp] (.List [] lp) pos) R := by
  refine ex_setattr (a := x) (d := d) (P := fun a h => ∃ l, a = .ref l ∧ H l = none ∧ h = H.set l (.list [])) (ev_list (P := fun l h => l = [] ∧ h = H) (evl_nil ⟨rfl, rfl⟩) fun l h1 t p hn => ?_) (fun a h p => ?_) ok (Nat.lt_of_le_of_lt I.len hz) hsw
  · obtain ⟨rfl, rfl⟩ := p
    exact ⟨by show 0 ≤ _; decide, t, rfl, hn, rfl⟩
  obtain ⟨l, rfl, hn, rfl⟩ := p
  have hx : l ≠ x := fun q => by rw [q, I.self] at hn; cases hn
  refine ⟨O _, by rw [AH.set_ne hx.symm]; exact I.self, r _ l ⟨Nat.le_trans (putF_length _ _ _) (Nat.succ_le_succ I.len), AH.set_self, (I.le.trans (LeB.new hn)).trans (LeB.set (by simp)), fun p hp => ?_⟩⟩
  rcases List.mem_cons.mp hp with rfl | hp
  · refine ⟨by rw [AH.set_ne hx]; exact AH.set_self, ?_, hx⟩
    cases q : H0 l with
    | none => rfl
    | some o => rw [I.le l o (by simpa using hx) q] at hn; cases hn
  · obtain ⟨h1, h2, h3⟩ := I.own p hp
    refine ⟨?_, h2, h3⟩
    rw [AH.set_ne h3]; exact AH.set_keep hn h1

theorem b_ini5 : ∀ vs : List Value, vs.length = 4 → bindArgs fType_init.fd ⟨vs, []⟩ = pure (((fType_init.scope.names.take 4).map (·.1)).zip vs) | [a, b, c, d], _ => by kernel_rfl
theorem b_ini6 : ∀ vs : List Value, vs.length = 5 → bindArgs fObj_init.fd ⟨vs, []⟩ = pure (((fObj_init.scope.names.take 5).map (·.1)).zip vs) | [a, b, c, d, e], _ => by kernel_rfl

/-- a type just made -/
structure NewTy (H0 : AH) (x : Addr) (n : Int) (form : Str) (H : AH) : Prop where
  at_ : ∃ d fs p, H x = some (.inst 179 d fs) ∧ lookF "number" fs = some (.int n) ∧ lookF "form" fs = some (.str form) ∧ lookF "base" fs = some .none ∧ lookF "length" fs = some (.int 0) ∧ lookF "params" fs = some (.ref p) ∧ lookF "level" fs = some (.int 0) ∧ fs.length ≤ 12 ∧ H p = some (.list []) ∧ H0 p = none ∧ p ≠ x
  le : LeB [x] H0 H
theorem c_Type_init {x d : Addr} {n size : Int} {form : Str} (h : H x = some (.inst 179 d [])) : Fn prg w (MK w.params) 176 0 [.ref x, .int n, .str form, .int size] H (fun r H' => r = .none ∧ NewTy H x n form H') := by
  refine fn_def fType_init 4 k_Type_init (binds_pos rfl (by kernel_rfl) (by kernel_rfl) b_ini5) fun A h₀ L r hr => ?_
  show Exs _ _ _ _ _ _ (_ :: _) _
  refine exs_cons (ex_ini (.start h) (ev_local 0 rfl rfl) (ev_local 1 rfl rfl) kz_ty_number (by decide) fun H1 I1 => ?_)
  refine exs_cons (ex_ini I1 (ev_local 0 rfl rfl) (ev_local 2 rfl rfl) kz_ty_form (by decide) fun H1 I1 => ?_)
  refine exs_cons (ex_ini I1 (ev_local 0 rfl rfl) (ev_local 3 rfl rfl) kz_ty_size (by decide) fun H1 I1 => ?_)
  refine exs_cons (ex_ini I1 (ev_local 0 rfl rfl) ev_none kz_ty_base (by decide) fun H1 I1 => ?_)
  refine exs_cons (ex_ini I1 (ev_local 0 rfl rfl) ev_int kz_ty_length (by decide) fun H1 I1 => ?_)
  refine exs_cons (ex_iniL I1 (fun _ => ev_local 0 rfl rfl) kz_ty_fields (by decide) fun H1 f1 I1 => ?_)
  refine exs_cons (ex_ini I1 (ev_local 0 rfl rfl) ev_int kz_ty_level (by decide) fun H1 I1 => ?_)
  refine exs_cons (ex_iniL I1 (fun _ => ev_local 0 rfl rfl) kz_ty_params (by decide) fun H1 p1 I1 => ?_)
  refine exs_cons (ex_ini I1 (ev_local 0 rfl rfl) ev_str kz_ty_module (by decide) fun H1 I1 => ?_)
  refine exs_cons (ex_ini I1 (ev_local 0 rfl rfl) ev_str kz_ty_label (by decide) fun H1 I1 => ?_)
  refine exs_cons (ex_iniL I1 (fun _ => ev_local 0 rfl rfl) kz_ty_hidden (by decide) fun H1 h1 I1 => ?_)
  refine exs_cons (ex_ini I1 (ev_local 0 rfl rfl) ev_int kz_ty_exno (by decide) fun H1 I1 => exs_nil ⟨rfl, ⟨_, _, p1, I1.self, by kernel_rfl, by kernel_rfl, by kernel_rfl, by kernel_rfl, by kernel_rfl, by kernel_rfl, I1.len, ?_⟩, I1.le⟩)
  exact I1.own (p1, .list []) (by simp)
/-- an Obj just made -/
structure NewOb (H0 : AH) (x : Addr) (kind : Str) (t : AV) (H : AH) : Prop where
  at_ : ∃ d fs, H x = some (.inst 200 d fs) ∧ lookF "kind" fs = some (.str kind) ∧ lookF "readonly" fs = some (.bool false) ∧ lookF "type" fs = some t ∧ fs.length ≤ 14
  le : LeB [x] H0 H
theorem c_Obj_init {x d : Addr} {place : Int} {name kind : Str} {t : AV} (h : H x = some (.inst 200 d [])) : Fn prg w (MK w.params) 197 0 [.ref x, .str name, .str kind, t, .int place] H (fun r H' => r = .none ∧ NewOb H x kind t H') := by
  refine fn_def fObj_init 5 k_Obj_init (binds_pos rfl (by kernel_rfl) (by kernel_rfl) b_ini6) fun A h₀ L r hr => ?_
  show Exs _ _ _ _ _ _ (_ :: _) _
  refine exs_cons (ex_ini (.start h) (ev_local 0 rfl rfl) (ev_local 1 rfl rfl) kz_ob_name (by decide) fun H1 I1 => ?_)
  refine exs_cons (ex_ini I1 (ev_local 0 rfl rfl) (ev_local 2 rfl rfl) kz_ob_kind (by decide) fun H1 I1 => ?_)
  refine exs_cons (ex_ini I1 (ev_local 0 rfl rfl) (ev_local 3 rfl rfl) kz_ob_type (by decide) fun H1 I1 => ?_)
  refine exs_cons (ex_ini I1 (ev_local 0 rfl rfl) (ev_local 4 rfl rfl) kz_ob_place (by decide) fun H1 I1 => ?_)
  refine exs_cons (ex_ini I1 (ev_local 0 rfl rfl) ev_bool kz_ob_exported (by decide) fun H1 I1 => ?_)
  refine exs_cons (ex_ini I1 (ev_local 0 rfl rfl) ev_bool kz_ob_readonly (by decide) fun H1 I1 => ?_)
  refine exs_cons (ex_ini I1 (ev_local 0 rfl rfl) ev_int kz_ob_level (by decide) fun H1 I1 => ?_)
  refine exs_cons (ex_ini I1 (ev_local 0 rfl rfl) ev_str kz_ob_module (by decide) fun H1 I1 => ?_)
  refine exs_cons (ex_ini I1 (ev_local 0 rfl rfl) ev_none kz_ob_value (by decide) fun H1 I1 => ?_)
  refine exs_cons (ex_ini I1 (ev_local 0 rfl rfl) ev_int kz_ob_slot (by decide) fun H1 I1 => ?_)
  refine exs_cons (ex_ini I1 (ev_local 0 rfl rfl) ev_int kz_ob_offset (by decide) fun H1 I1 => ?_)
  refine exs_cons (ex_ini I1 (ev_local 0 rfl rfl) ev_int kz_ob_number (by decide) fun H1 I1 => ?_)
  refine exs_cons (ex_ini I1 (ev_local 0 rfl rfl) ev_bool kz_ob_isparam (by decide) fun H1 I1 => ?_)
  exact exs_cons (ex_ini I1 (ev_local 0 rfl rfl) ev_none kz_ob_narrowed (by decide) fun H1 I1 => exs_nil ⟨rfl, ⟨_, _, I1.self, by kernel_rfl, by kernel_rfl, by kernel_rfl, I1.len⟩, I1.le⟩)
/-- a node just made -/
structure NewNd (H0 : AH) (x : Addr) (op : Str) (t : AV) (kids : Addr) (v : AV) (H : AH) : Prop where
  nd : Nd H x op t kids v
  le : LeB [x] H0 H
theorem c_Node_init {x d : Addr} {place : Int} {op : Str} {t v : AV} {kids : Addr} {args : List AV} (h : H x = some (.inst 32 d [])) (b : Binds (MK w.params) fNode_init 6 args [.ref x, .str op, .int place, t, .ref kids, v]) :
    Fn prg w (MK w.params) 29 0 args H (fun r H' => r = .none ∧ NewNd H x op t kids v H') := by
  refine fn_def fNode_init 6 k_Node_init b fun A h₀ L r hr => ?_
  show Exs _ _ _ _ _ _ (_ :: _) _
  refine exs_cons (ex_ini (.start h) (ev_local 0 rfl rfl) (ev_local 1 rfl rfl) kz_no_op (by decide) fun H1 I1 => ?_)
  refine exs_cons (ex_ini I1 (ev_local 0 rfl rfl) (ev_local 2 rfl rfl) kz_no_place (by decide) fun H1 I1 => ?_)
  refine exs_cons (ex_ini I1 (ev_local 0 rfl rfl) (ev_local 3 rfl rfl) kz_no_type (by decide) fun H1 I1 => ?_)
  refine exs_cons (ex_ini I1 (ev_local 0 rfl rfl) (ev_local 4 rfl rfl) kz_no_kids (by decide) fun H1 I1 => ?_)
  refine exs_cons (ex_ini I1 (ev_local 0 rfl rfl) (ev_local 5 rfl rfl) kz_no_value (by decide) fun H1 I1 => ?_)
  exact exs_cons (ex_ini I1 (ev_local 0 rfl rfl) ev_bool kz_no_sure (by decide) fun H1 I1 => exs_nil ⟨rfl, ⟨_, _, I1.self, by kernel_rfl, by kernel_rfl, by kernel_rfl, by kernel_rfl⟩, I1.le⟩)
theorem oNode_dv {P : Params} : (MK P).lookup 22 = some (sO (.type "tuple") 0 [.none]) := by kernel_rfl
theorem oNew_dv {P : Params} : (MK P).lookup 219 = some (sO (.type "tuple") 0 [.str "" 485, .str "" 486]) := by kernel_rfl
theorem binds_node6 {P : Params} {a b c d e f : AV} : Binds (MK P) fNode_init 6 [a, b, c, d, e, f] [a, b, c, d, e, f] := by
  refine ⟨rfl, by kernel_rfl, by kernel_rfl, fun s vs hk o => ?_⟩
  cases o with | cons o1 o => cases o with | cons o2 o => cases o with | cons o3 o => cases o with | cons o4 o => cases o with | cons o5 o => cases o with | cons o6 o =>
  cases o
  exact ⟨[_, _, _, _, _, _], .cons o1 (.cons o2 (.cons o3 (.cons o4 (.cons o5 (.cons o6 .nil))))), binds_K hk rfl oNode_dv rfl rfl rfl⟩
theorem binds_node5 {P : Params} {a b c d e : AV} : Binds (MK P) fNode_init 6 [a, b, c, d, e] [a, b, c, d, e, .none] := by
  refine ⟨rfl, by kernel_rfl, by kernel_rfl, fun s vs hk o => ?_⟩
  cases o with | cons o1 o => cases o with | cons o2 o => cases o with | cons o3 o => cases o with | cons o4 o => cases o with | cons o5 o =>
  cases o
  exact ⟨[_, _, _, _, _, .none], .cons o1 (.cons o2 (.cons o3 (.cons o4 (.cons o5 (.cons rfl .nil))))), binds_K hk rfl oNode_dv rfl rfl rfl⟩
end Mine
namespace Mine
variable {w : World} {H H' : AH} {C : Cx} {ρ : Rho} {W : List Sh} {rows : Addr} {ta : Option Nat → Addr} {num : Option Nat → Int}

theorem le_made {x d : Addr} {cls : Addr} {H2 : AH} (hx : H x = none) (hd : H d = none) (hxd : x ≠ d) (l : LeB [x] ((H.set d (.own x)).set x (.inst cls d [])) H2) : LeB [] H H2 :=
  LeB.newer hx fun b o n e => l b o n (AH.set_keep (by rw [AH.set_ne hxd]; exact hx) (AH.set_keep hd e))

structure MadeOb (H : AH) (x : Addr) (kind : Str) (t : AV) (H' : AH) : Prop where
  at_ : ∃ d fs, H' x = some (.inst 200 d fs) ∧ lookF "kind" fs = some (.str kind) ∧ lookF "readonly" fs = some (.bool false) ∧ lookF "type" fs = some t ∧ fs.length ≤ 14
  new : H x = none
  le : LeB [] H H'
theorem MadeOb.ob {x : Addr} {kind : Str} {t : AV} (m : MadeOb H x kind t H') : Ob H' x kind false t := let ⟨d, fs, h1, h2, h3, h4, _⟩ := m.at_; ⟨d, fs, h1, h2, h3, h4⟩
/-- Obj(..) -/
theorem ev_Obj {xp pos : Pos} {e : PySem.Expr} {es : List PySem.Expr} {name kind : Str} {t : AV} {place : Int} (i : Nat) (n : C.scope.names[i]? = some (("Obj" : Str), .globalImplicit)) (X : EvLP prg w (MK w.params) C ρ H (e :: es) [.str name, .str kind, t, .int place]) (hr : 2 ≤ C.r)
    (hpl : ((backTo pos (starEach es C.env)).any (·.1)) = false := by rfl) (hst : starEach (e :: es) C.env = (false, eval e C.env) :: starEach es C.env := by rfl) :
    EvG prg w (MK w.params) C ρ H (.Call (.Name "Obj" xp) (e :: es) [] pos) (fun av H2 => ∃ x, av = .ref x ∧ MadeOb H x kind t H2) := by
  refine ev_new (P1 := fun l h => l = [.str name, .str kind, t, .int place] ∧ h = H) i n g_Obj i_Obj (X.l ⟨rfl, rfl⟩) (fun avs H1 p x d hx hd hxd => ?_) (need := 0) hr hpl hst
  obtain ⟨rfl, rfl⟩ := p
  refine fun C ρ A s R vs hz ha hr S o k => c_Obj_init AH.set_self C ρ A s R vs hz ha hr S o fun av H' v h' tk p ov S' => k av H' v h' tk ⟨p.1, x, rfl, p.2.at_, hx, le_made hx hd hxd p.2.le⟩ ov S'

structure MadeNd (H : AH) (x : Addr) (op : Str) (t : AV) (xs : List AV) (v : AV) (H' : AH) : Prop where
  nd : ∃ kids, Nd H' x op t kids v ∧ H' kids = some (.list xs)
  new : H x = none
  le : LeB [] H H'
theorem made_nd {x d l : Addr} {op : Str} {t v : AV} {xs : List AV} {H2 : AH} (hl : H l = none) (hx : (H.set l (.list xs)) x = none) (hd : (H.set l (.list xs)) d = none) (hxd : x ≠ d) (q : NewNd (((H.set l (.list xs)).set d (.own x)).set x (.inst 32 d [])) x op t l v H2) : MadeNd H x op t xs v H2 where
  nd := ⟨l, q.nd, le_made hx hd hxd q.le l _ (by simp) AH.set_self⟩
  new := by
    cases e : H x with
    | none => rfl
    | some o => rw [AH.set_keep hl e] at hx; cases hx
  le := LeB.trans (LeB.new hl) (le_made hx hd hxd q.le)
/-- Node(op, place, type, [..], value) -/
theorem ev_Node5 {xp lp pos : Pos} {e1 e2 e3 e5 : PySem.Expr} {ks : List PySem.Expr} {xs : List AV} {op : Str} {t v : AV} {place : Int} (i : Nat) (n : C.scope.names[i]? = some (("Node" : Str), .globalImplicit))
    (X1 : EvP prg w (MK w.params) C ρ H e1 (.str op)) (X2 : EvP prg w (MK w.params) C ρ H e2 (.int place)) (X3 : EvP prg w (MK w.params) C ρ H e3 t) (Ks : EvLP prg w (MK w.params) C ρ H ks xs) (V : ∀ H, EvP prg w (MK w.params) C ρ H e5 v) (hr : 2 ≤ C.r) (hz : xs.length ≤ 16777216 := by show _ ≤ 16777216; simp only [List.length]; decide)
    (q1 : starEach [e1, e2, e3, .List ks lp, e5] C.env = (false, eval e1 C.env) :: starEach [e2, e3, .List ks lp, e5] C.env := by rfl) (q2 : starEach [e2, e3, .List ks lp, e5] C.env = (false, eval e2 C.env) :: starEach [e3, .List ks lp, e5] C.env := by rfl)
    (q3 : starEach [e3, .List ks lp, e5] C.env = (false, eval e3 C.env) :: starEach [.List ks lp, e5] C.env := by rfl) (q5 : starEach [e5] C.env = (false, eval e5 C.env) :: starEach [] C.env := by rfl)
    (hpl : ((backTo pos (starEach [e2, e3, .List ks lp, e5] C.env)).any (·.1)) = false := by rfl) :
    EvG prg w (MK w.params) C ρ H (.Call (.Name "Node" xp) [e1, e2, e3, .List ks lp, e5] [] pos) (fun av H2 => ∃ x, av = .ref x ∧ MadeNd H x op t xs v H2) := by
  refine ev_new (P1 := fun avs H1 => ∃ l, avs = [.str op, .int place, t, .ref l, v] ∧ H l = none ∧ H1 = H.set l (.list xs)) i n g_Node i_Node ?_ (fun avs H1 p x d hx hd hxd => ?_) (need := 0) hr hpl q1
  · refine evl_consP X1 (evl_consP X2 (evl_consP X3 (evl_cons (P1 := fun a H1 => ∃ l, a = .ref l ∧ H l = none ∧ H1 = H.set l (.list xs)) (ev_list (P := fun l h => l = xs ∧ h = H) (Ks.l ⟨rfl, rfl⟩) fun l h1 t p hn => ?_) (fun a H1 p => evl_consP (V _) (evl_nil ?_) q5) rfl) q3) q2) q1
    · obtain ⟨rfl, rfl⟩ := p; exact ⟨hz, t, rfl, hn, rfl⟩
    · obtain ⟨l, rfl, h1, h2⟩ := p; exact ⟨l, rfl, h1, h2⟩
  obtain ⟨l, rfl, hl, rfl⟩ := p
  exact fun C ρ A s R vs hz ha hr S o k => c_Node_init AH.set_self binds_node6 C ρ A s R vs hz ha hr S o fun av H' v h' tk q ov S' => k av H' v h' tk ⟨q.1, x, rfl, made_nd hl hx hd hxd q.2⟩ ov S'
theorem ev_Node4 {xp lp pos : Pos} {e1 e2 e3 : PySem.Expr} {ks : List PySem.Expr} {xs : List AV} {op : Str} {t : AV} {place : Int} (i : Nat) (n : C.scope.names[i]? = some (("Node" : Str), .globalImplicit))
    (X1 : EvP prg w (MK w.params) C ρ H e1 (.str op)) (X2 : EvP prg w (MK w.params) C ρ H e2 (.int place)) (X3 : EvP prg w (MK w.params) C ρ H e3 t) (Ks : EvLP prg w (MK w.params) C ρ H ks xs) (hr : 2 ≤ C.r) (hz : xs.length ≤ 16777216 := by show _ ≤ 16777216; simp only [List.length]; decide)
    (q1 : starEach [e1, e2, e3, .List ks lp] C.env = (false, eval e1 C.env) :: starEach [e2, e3, .List ks lp] C.env := by rfl) (q2 : starEach [e2, e3, .List ks lp] C.env = (false, eval e2 C.env) :: starEach [e3, .List ks lp] C.env := by rfl)
    (q3 : starEach [e3, .List ks lp] C.env = (false, eval e3 C.env) :: starEach [.List ks lp] C.env := by rfl)
    (hpl : ((backTo pos (starEach [e2, e3, .List ks lp] C.env)).any (·.1)) = false := by rfl) :
    EvG prg w (MK w.params) C ρ H (.Call (.Name "Node" xp) [e1, e2, e3, .List ks lp] [] pos) (fun av H2 => ∃ x, av = .ref x ∧ MadeNd H x op t xs .none H2) := by
  refine ev_new (P1 := fun avs H1 => ∃ l, avs = [.str op, .int place, t, .ref l] ∧ H l = none ∧ H1 = H.set l (.list xs)) i n g_Node i_Node ?_ (fun avs H1 p x d hx hd hxd => ?_) (need := 0) hr hpl q1
  · refine evl_consP X1 (evl_consP X2 (evl_consP X3 (evl_cons (P1 := fun a H1 => ∃ l, a = .ref l ∧ H l = none ∧ H1 = H.set l (.list xs)) (ev_list (P := fun l h => l = xs ∧ h = H) (Ks.l ⟨rfl, rfl⟩) fun l h1 t p hn => ?_) (fun a H1 p => evl_nil ?_) rfl) q3) q2) q1
    · obtain ⟨rfl, rfl⟩ := p; exact ⟨hz, t, rfl, hn, rfl⟩
    · obtain ⟨l, rfl, h1, h2⟩ := p; exact ⟨l, rfl, h1, h2⟩
  obtain ⟨l, rfl, hl, rfl⟩ := p
  exact fun C ρ A s R vs hz ha hr S o k => c_Node_init AH.set_self binds_node5 C ρ A s R vs hz ha hr S o fun av H' v h' tk q ov S' => k av H' v h' tk ⟨q.1, x, rfl, made_nd hl hx hd hxd q.2⟩ ov S'

theorem lookF_self (x : Str) (v : AV) : ∀ fs, lookF x (putF x v fs) = some v
  | [] => by unfold putF lookF; simp
  | (y, a) :: r => by
    unfold putF
    by_cases h : (y == x) = true
    · rw [if_pos h]; unfold lookF; rw [if_pos h]
    · rw [if_neg h]; unfold lookF; rw [if_neg h]; exact lookF_self x v r
theorem lookF_ne {x y : Str} {v : AV} (n : (y == x) = false) : ∀ fs, lookF x (putF y v fs) = lookF x fs
  | [] => by unfold putF; conv => lhs; unfold lookF; rw [n, if_neg Bool.false_ne_true]
  | (z, a) :: r => by
    unfold putF
    by_cases h : (z == y) = true
    · rw [if_pos h]
      have hz : z = y := beq_iff_eq.mp h
      subst hz
      unfold lookF; rw [n, if_neg Bool.false_ne_true, if_neg Bool.false_ne_true]
    · rw [if_neg h]; unfold lookF; rw [lookF_ne n r]
theorem b_node : ∀ vs : List Value, vs.length = 4 → bindArgs flaw_node.fd ⟨vs, []⟩ = pure (((flaw_node.scope.names.take 4).map (·.1)).zip vs) | [a, b, c, d], _ => by kernel_rfl
def desW (way : Nat) : Bool := way != 3
def roW (way : Nat) : Bool := way == 1
structure NodeOk (H : AH) (node : Addr) (t : AV) (way : Nat) : Prop where
  at_ : ∃ c n op₀ op kids₀ kids v₀ v ty ro, Root H node c n ∧ Nd H node op₀ t kids₀ v₀ ∧ Nd H c op ty kids v ∧ (op = "var" → ∃ o kind ty, v = .ref o ∧ Ob H o kind ro ty) ∧ ((op == ("var" : Str)) || (op == ("deref" : Str))) = desW way ∧ ((op == ("var" : Str)) && ro) = roW way ∧ (way = 0 → op₀ = "var")
theorem c_node (K : WOk H W rows ta num) {i way : Nat} {s s6 : Sh} (hs : W[i]? = some s) (h6 : W[6]? = some s6) (hw : way < 5) (pool : Addr) :
    Fn prg w (MK w.params) 282 2 [.ref pool, .ref rows, .int i, .int way] H (fun r H' => ∃ x, r = .ref x ∧ LeB [] H H' ∧ NodeOk H' x (.ref (ta (some i))) way) := by
  obtain ⟨si, ri, oi⟩ := K.row hs
  obtain ⟨sj, rj, oj⟩ := K.row h6
  refine fn_def flaw_node 4 k_law_node (binds_pos rfl (by kernel_rfl) (by kernel_rfl) b_node) fun A h₀ L r hr => ?_
  show Exs _ _ _ _ _ _ (_ :: _) _
  refine exs_cons (ex_assign 4 rfl (ev_Obj 8 rfl (.cons ev_str rfl (.cons ev_str rfl (.cons (ev_row0 ri (ev_local 1 rfl rfl) (ev_local 2 rfl rfl)) rfl (.cons ev_int rfl .nil)))) hr) ?_)
  rintro _ H1 ⟨held, rfl, m1⟩
  have r1 := ri.mono m1.le.le
  have r1' := rj.mono m1.le.le
  refine exs_cons (ex_if (ts_cmp (ev_local 3 rfl rfl) ev_int rfl) (fun e => ?_) (fun e => exs_nil ?_))
  · have e : (way : Int) = 0 := beq_iff_eq.mp e
    refine exs_cons (ex_retG (ev_Node5 (xs := []) 9 rfl ev_str ev_int (ev_row0 r1 (ev_local 1 rfl rfl) (ev_local 2 rfl rfl)) .nil (fun _ => ev_local 4 rfl rfl) hr) ?_)
    rintro _ H2 ⟨x, rfl, m2⟩
    obtain ⟨kids, nd, hk⟩ := m2.nd
    have hw0 : way = 0 := by omega
    subst hw0
    exact ⟨x, rfl, m1.le.trans m2.le, ⟨x, 0, "var", "var", kids, kids, .ref held, .ref held, _, false, .here nd (by decide), nd, nd, fun _ => ⟨held, _, _, rfl, m1.ob.mono m2.le.le⟩, rfl, rfl, fun _ => rfl⟩⟩
  have hw0 : way ≠ 0 := by intro q; subst q; simp at e
  refine exs_cons (ex_assign 5 rfl (ev_Obj 8 rfl (.cons ev_str rfl (.cons ev_str rfl (.cons (ev_row0 r1' (ev_local 1 rfl rfl) ev_int) rfl (.cons ev_int rfl .nil)))) hr) ?_)
  rintro _ H2 ⟨en, rfl, m2⟩
  obtain ⟨d, fs, o1, o2, o3, o4, o5⟩ := m2.at_
  refine exs_cons (ex_setattr (a := en) (d := d) (fs := fs) (P := fun a h => a = .bool (([1, 4] : List Int).any (· == (way : Int))) ∧ h = H2) ((ev_inI [1, 4] (ev_local 3 rfl rfl) (.cons ev_int rfl (.cons ev_int rfl .nil))).g ⟨rfl, rfl⟩) (fun a h p => ?_) kz_ob_readonly (by omega))
  obtain ⟨rfl, rfl⟩ := p
  refine ⟨ev_local 5 rfl rfl, o1, ?_⟩
  have l13 : LeB [] H1 (h.set en (.inst 200 d (putF "readonly" (.bool (([1, 4] : List Int).any (· == (way : Int)))) fs))) := LeB.newer m2.new ((m2.le.more (by simp)).trans (LeB.set (by simp)))
  have oe : Ob (h.set en (.inst 200 d (putF "readonly" (.bool (([1, 4] : List Int).any (· == (way : Int)))) fs))) en "par" (([1, 4] : List Int).any (· == (way : Int))) (.ref (ta (some 6))) :=
    ⟨d, _, AH.set_self, by rw [lookF_ne (by decide)]; exact o2, lookF_self _ _ _, by rw [lookF_ne (by decide)]; exact o4⟩
  generalize hH3 : h.set en (.inst 200 d (putF "readonly" (.bool (([1, 4] : List Int).any (· == (way : Int)))) fs)) = H3 at l13 oe
  have r3 := r1.mono l13.le
  have r3' := r1'.mono l13.le
  refine exs_cons (ex_assign 6 rfl (ev_Node5 (xs := []) 9 rfl ev_str ev_int (ev_row0 r3' (ev_local 1 rfl rfl) ev_int) .nil (fun _ => ev_local 5 rfl rfl) hr) ?_)
  rintro _ H4 ⟨root, rfl, m4⟩
  obtain ⟨kids4, nd4, hk4⟩ := m4.nd
  have r4 := r3.mono m4.le.le
  have oe4 := oe.mono m4.le.le
  refine exs_cons (ex_if (ts_cmp (ev_local 3 rfl rfl) ev_int rfl) (fun e2 => ?_) (fun e2 => exs_nil ?_))
  · have e2 : (way : Int) < 3 := of_decide_eq_true e2
    refine exs_cons (ex_assign 7 rfl (ev_Obj 8 rfl (.cons ev_str rfl (.cons ev_str rfl (.cons (ev_row0 r4 (ev_local 1 rfl rfl) (ev_local 2 rfl rfl)) rfl (.cons ev_int rfl .nil)))) hr) ?_)
    rintro _ H5 ⟨po, rfl, m5⟩
    refine exs_cons (ex_retG (ev_Node5 (xs := [.ref root]) 9 rfl ev_str ev_int (ev_row0 (r4.mono m5.le.le) (ev_local 1 rfl rfl) (ev_local 2 rfl rfl)) (.cons (ev_local 6 rfl rfl) rfl .nil) (fun _ => ev_local 7 rfl rfl) hr) ?_)
    rintro _ H6 ⟨x, rfl, m6⟩
    obtain ⟨kids, nd, hk⟩ := m6.nd
    have l46 := m5.le.trans m6.le
    refine ⟨x, rfl, (((m1.le.trans l13).trans m4.le).trans m5.le).trans m6.le, ⟨root, 1, "field", "var", kids, kids4, .ref po, .ref en, _, ([1, 4] : List Int).any (· == (way : Int)), .step nd (by decide) hk (.here (nd4.mono l46.le) (by decide)), nd, nd4.mono l46.le, fun _ => ⟨en, _, _, rfl, oe4.mono l46.le⟩, ?_, ?_, fun q => absurd q hw0⟩⟩
    · have : way = 1 ∨ way = 2 := by omega
      rcases this with rfl | rfl <;> decide
    · have : way = 1 ∨ way = 2 := by omega
      rcases this with rfl | rfl <;> decide
  have e2 : ¬ (way : Int) < 3 := of_decide_eq_false e2
  refine exs_cons (ex_if (ts_cmp (ev_local 3 rfl rfl) ev_int rfl) (fun e3 => ?_) (fun e3 => exs_nil ?_))
  · have e3 : (way : Int) = 4 := beq_iff_eq.mp e3
    have hw4 : way = 4 := by omega
    refine exs_cons (ex_retG (ev_Node4 (xs := [.ref root]) 9 rfl ev_str ev_int (ev_row0 r4 (ev_local 1 rfl rfl) (ev_local 2 rfl rfl)) (.cons (ev_local 6 rfl rfl) rfl .nil) hr) ?_)
    rintro _ H6 ⟨x, rfl, m6⟩
    obtain ⟨kids, nd, hk⟩ := m6.nd
    exact ⟨x, rfl, ((m1.le.trans l13).trans m4.le).trans m6.le, ⟨x, 0, "deref", "deref", kids, kids, .none, .none, _, false, .here nd (by decide), nd, nd, fun q => absurd q (by decide), by rw [hw4]; decide, by rw [hw4]; decide, fun q => absurd q hw0⟩⟩
  · have e3 : ¬ (way : Int) = 4 := beq_eq_false_iff_ne.mp e3
    have hw3 : way = 3 := by omega
    refine exs_cons (ex_retG (ev_Node4 (xs := [.ref root]) 9 rfl ev_str ev_int (ev_row0 r4 (ev_local 1 rfl rfl) (ev_local 2 rfl rfl)) (.cons (ev_local 6 rfl rfl) rfl .nil) hr) ?_)
    rintro _ H6 ⟨x, rfl, m6⟩
    obtain ⟨kids, nd, hk⟩ := m6.nd
    exact ⟨x, rfl, ((m1.le.trans l13).trans m4.le).trans m6.le, ⟨x, 0, "call", "call", kids, kids, .none, .none, _, false, .here nd (by decide), nd, nd, fun q => absurd q (by decide), by rw [hw3]; decide, by rw [hw3]; decide, fun q => absurd q hw0⟩⟩
end Mine
namespace Mine
variable {w : World} {H H' : AH} {C : Cx} {ρ : Rho}

theorem putF_len {x : Str} {a v : AV} : ∀ {fs : List (Str × AV)}, lookF x fs = some a → (putF x v fs).length = fs.length
  | (y, b) :: r, e => by
    unfold lookF at e; unfold putF
    by_cases h : (y == x) = true
    · rw [if_pos h]; rfl
    · rw [if_neg h] at e ⊢; simp [putF_len e]
/-- the heap without some places -/
def AH.del (M : List Addr) (H : AH) : AH := fun b => if b ∈ M then none else H b
theorem del_of {M : List Addr} {b : Addr} {o : AO} (h : H b = some o) (n : b ∉ M) : H.del M b = some o := by unfold AH.del; rw [if_neg n]; exact h
theorem of_del {M : List Addr} {b : Addr} {o : AO} (h : H.del M b = some o) : H b = some o ∧ b ∉ M := by
  unfold AH.del at h
  by_cases q : b ∈ M
  · rw [if_pos q] at h; cases h
  · rw [if_neg q] at h; exact ⟨h, q⟩
theorem LeB.del {M : List Addr} (l : LeB M H H') : Le (H.del M) (H'.del M) := fun b o e => let ⟨h, n⟩ := of_del e; del_of (l b o n h) n
theorem Known.mono {a : Addr} {n : Nat} (k : Known prg w H a n) (h1 : H' a = H a) (h2 : ∀ b xs, H b = some (.tup xs) → H' b = some (.tup xs)) : Known prg w H' a n :=
  let ⟨o, xs, e, q1, q2, q3⟩ := k; ⟨o, xs, h1.trans e, q1, q2, fun x hx => h2 _ _ (q3 x hx)⟩
theorem Known.dic {a : Addr} {n : Nat} (k : Known prg w H a n) : ∃ o, H a = some (.dic o) := let ⟨o, _, e, _⟩ := k; ⟨o, e⟩

theorem Known.up {a : Addr} {n : Nat} (k : Known prg w H a n) : Known prg w H a (n + 1) := let ⟨o, xs, e, q1, q2, q3⟩ := k; ⟨o, xs, e, q1, Nat.le_succ_of_le q2, q3⟩
structure TypesAt (w : World) (H : AH) (t d kd : Addr) (fs : List (Str × AV)) (n : Int) (m k : Nat) : Prop where
  self : H t = some (.inst 236 d fs)
  cnt : lookF "counter" fs = some (.int n)
  kno : lookF "known" fs = some (.ref kd)
  kn : Known prg w H kd m
  len : fs.length ≤ k
  no1 : lookF "new" fs = none
  no2 : lookF "string" fs = none
/-- what is asked of a new type -/
structure TyAt (x : Addr) (n : Int) (form : Str) (base : AV) (len lev : Int) (p : Addr) (H : AH) : Prop where
  at_ : ∃ d fs, H x = some (.inst 179 d fs) ∧ lookF "number" fs = some (.int n) ∧ lookF "form" fs = some (.str form) ∧ lookF "base" fs = some base ∧ lookF "length" fs = some (.int len) ∧ lookF "params" fs = some (.ref p) ∧ lookF "level" fs = some (.int lev) ∧ fs.length ≤ 30
theorem TyAt.ty {x : Addr} {n : Int} {form : Str} {base : AV} {len lev : Int} {p : Addr} (y : TyAt x n form base len lev p H) : Ty H x n form base len p := let ⟨d, fs, h1, h2, h3, h4, h5, h6, _⟩ := y.at_; ⟨d, fs, h1, h2, h3, h4, h5, h6⟩
structure MadeTy (w : World) (H : AH) (t d kd : Addr) (fs : List (Str × AV)) (n : Int) (m k : Nat) (x p : Addr) (form : Str) (H' : AH) : Prop where
  new : H x = none
  newp : H p = none
  px : p ≠ x
  par : H' p = some (.list [])
  ty : TyAt x (n + 1) form .none 0 0 p H'
  ts : TypesAt w H' t d kd (putF "counter" (.int (n + 1)) fs) (n + 1) (m + 1) k
  le : LeB [t, kd] H H'
def newBinds (args : List AV) (P : Params) : Prop := ∃ t form size md lb, args = [t, form, size, md, lb]
theorem c_new {t d kd : Addr} {fs : List (Str × AV)} {n size : Int} {m k : Nat} {form md lb : Str} {args : List AV} (T : TypesAt w H t d kd fs n m k) (hm : m ≤ 100000) (hk : k ≤ 900) (b : Binds (MK w.params) fTypes_new 5 args [.ref t, .str form, .int size, .str md, .str lb]) :
    Fn prg w (MK w.params) 226 2 args H (fun r H' => ∃ x p, r = .ref x ∧ MadeTy w H t d kd fs n m k x p form H') := by
  refine fn_def fTypes_new 5 k_Types_new b fun A h₀ L r hr => ?_
  show Exs _ _ _ _ _ _ (_ :: _) _
  refine exs_cons (ex_augattr (ev_local 0 rfl rfl) ev_int T.self T.cnt ka_ts_counter kz_ts_counter (Nat.lt_of_le_of_lt T.len (by omega)) ?_)
  have h1 : (H.set t (.inst 236 d (putF "counter" (.int (n + 1)) fs))) t = _ := AH.set_self
  have l1 : LeB [t, kd] H (H.set t (.inst 236 d (putF "counter" (.int (n + 1)) fs))) := LeB.set (by simp)
  have ktn : kd ≠ t := by rintro rfl; obtain ⟨o, q⟩ := T.kn.dic; rw [T.self] at q; cases q
  have k1 : Known prg w (H.set t (.inst 236 d (putF "counter" (.int (n + 1)) fs))) kd m := T.kn.mono (AH.set_ne ktn) (fun b xs q => by rw [AH.set_ne]; exact q; rintro rfl; rw [T.self] at q; cases q)
  have back : ∀ x, (H.set t (.inst 236 d (putF "counter" (.int (n + 1)) fs))) x = none → H x = none := fun x e => by
    by_cases q : x = t
    · rw [q, h1] at e; cases e
    · rwa [AH.set_ne q] at e
  generalize H.set t (.inst 236 d (putF "counter" (.int (n + 1)) fs)) = H1 at h1 l1 k1 back
  refine exs_cons (ex_assign 5 rfl (ev_new (P1 := fun l h => l = [.int (n + 1), .str form, .int size] ∧ h = H1) (P := fun a H2 => ∃ x d, a = .ref x ∧ H1 x = none ∧ H1 d = none ∧ x ≠ d ∧ NewTy ((H1.set d (.own x)).set x (.inst 179 d [])) x (n + 1) form H2) 6 rfl g_Type i_Type ((EvLP.cons (ev_attr (ev_local 0 rfl rfl) h1 (lookF_self _ _ _) ka_ts_counter) rfl (.cons (ev_local 1 rfl rfl) rfl (.cons (ev_local 2 rfl rfl) rfl .nil))).l ⟨rfl, rfl⟩) (fun avs H2 p x d hx hd hxd => ?_) (need := 0) hr) ?_)
  · obtain ⟨rfl, rfl⟩ := p
    exact fun C ρ A s R vs hz ha hr S o k => c_Type_init AH.set_self C ρ A s R vs hz ha hr S o fun av H' v h' tk q ov S' => k av H' v h' tk ⟨q.1, x, d, rfl, hx, hd, hxd, q.2⟩ ov S'
  rintro _ H2 ⟨x, dx, rfl, hx, hd, hxd, q⟩
  have l2 := le_made hx hd hxd q.le
  obtain ⟨dx, fx, p, hx2, f1, f2, f3, f4, f5, f6, f7, hp2, hp0, hpx⟩ := q.at_
  have px0 : H1 p = none := by
    cases e : H1 p with
    | none => rfl
    | some o => rw [AH.set_keep (by rw [AH.set_ne hxd]; exact hx) (AH.set_keep hd e)] at hp0; cases hp0
  refine exs_cons (ex_setattr (a := x) (d := dx) (fs := fx) (P := fun a h => a = .str md ∧ h = H2) ((ev_local 3 rfl rfl).g ⟨rfl, rfl⟩) (fun a h p => ?_) kz_ty_module (by omega))
  obtain ⟨rfl, rfl⟩ := p
  refine ⟨ev_local 5 rfl rfl, hx2, ?_⟩
  refine exs_cons (ex_setattr (a := x) (d := dx) (fs := putF "module" (.str md) fx) (P := fun a h' => a = .str lb ∧ h' = h.set x (.inst 179 dx (putF "module" (.str md) fx))) ((ev_local 4 rfl rfl).g ⟨rfl, rfl⟩) (fun a h' p => ?_) kz_ty_label (Nat.lt_of_le_of_lt (putF_length _ _ _) (by omega)))
  obtain ⟨rfl, rfl⟩ := p
  refine ⟨ev_local 5 rfl rfl, AH.set_self, ?_⟩
  have hx4 : ((h.set x (.inst 179 dx (putF "module" (.str md) fx))).set x (.inst 179 dx (putF "label" (.str lb) (putF "module" (.str md) fx)))) x = _ := AH.set_self
  have hp4 : ((h.set x (.inst 179 dx (putF "module" (.str md) fx))).set x (.inst 179 dx (putF "label" (.str lb) (putF "module" (.str md) fx)))) p = some (.list []) := by rw [AH.set_ne hpx, AH.set_ne hpx]; exact hp2
  have l4 : LeB [] H1 ((h.set x (.inst 179 dx (putF "module" (.str md) fx))).set x (.inst 179 dx (putF "label" (.str lb) (putF "module" (.str md) fx)))) := LeB.newer hx (((l2.more (by simp)).trans (LeB.set (by simp))).trans (LeB.set (by simp)))
  generalize ((h.set x (.inst 179 dx (putF "module" (.str md) fx))).set x (.inst 179 dx (putF "label" (.str lb) (putF "module" (.str md) fx)))) = H4 at hx4 hp4 l4
  obtain ⟨ok, hok⟩ := k1.dic
  have k4 : Known prg w H4 kd m := k1.mono (by rw [l4 kd _ (by simp) hok, hok]) (fun b xs q => l4 b _ (by simp) q)
  have xk : x ≠ kd := by rintro rfl; rw [hok] at hx; cases hx
  have pk : p ≠ kd := by rintro rfl; rw [hok] at px0; cases px0
  have t4 := l4 t _ (by simp) h1
  have T4 : ∀ H5, LeB [kd] H4 H5 → Known prg w H5 kd (m + 1) → MadeTy w H t d kd fs n m k x p form H5 := fun H5 l5 k5 => {
    new := back x hx
    newp := back p px0
    px := hpx
    par := l5 p _ (by simpa using pk) hp4
    ty := ⟨dx, _, l5 x _ (by simpa using xk) hx4, by rw [lookF_ne (by decide), lookF_ne (by decide)]; exact f1, by rw [lookF_ne (by decide), lookF_ne (by decide)]; exact f2, by rw [lookF_ne (by decide), lookF_ne (by decide)]; exact f3, by rw [lookF_ne (by decide), lookF_ne (by decide)]; exact f4, by rw [lookF_ne (by decide), lookF_ne (by decide)]; exact f5, by rw [lookF_ne (by decide), lookF_ne (by decide)]; exact f6, by have := putF_length "label" (.str lb) (putF "module" (.str md) fx); have := putF_length "module" (.str md) fx; omega⟩
    ts := ⟨l5 t _ (by simpa using Ne.symm ktn) t4, lookF_self _ _ _, by rw [lookF_ne (by decide)]; exact T.kno, k5, by rw [putF_len T.cnt]; exact T.len, by rw [lookF_ne (by decide)]; exact T.no1, by rw [lookF_ne (by decide)]; exact T.no2⟩
    le := (l1.trans (l4.more (by simp))).trans (l5.more (by simp)) }
  refine exs_cons (ex_if (ts_cmp (ev_local 4 rfl rfl) ev_str rfl) (fun e => ?_) (fun e => exs_nil ?_))
  · refine exs_cons (ex_setknown (ev_local 5 rfl rfl) (ev_attr (ev_local 0 rfl rfl) t4 (by rw [lookF_ne (by decide)]; exact T.kno) ka_ts_known) (.cons (ev_local 3 rfl rfl) rfl (.cons (ev_local 4 rfl rfl) rfl .nil)) k4 (by omega) fun t' o ht' kn' => exs_nil ?_)
    exact exs_cons (ex_ret (ev_local 5 rfl rfl) ⟨x, p, rfl, T4 _ ((LeB.new ht').trans (LeB.set (by simp))) kn'⟩)
  · exact exs_cons (ex_ret (ev_local 5 rfl rfl) ⟨x, p, rfl, T4 _ LeB.refl k4.up⟩)
theorem TyAt.mono {x p : Addr} {n len lev : Int} {form : Str} {base : AV} (l : Le H H') (y : TyAt x n form base len lev p H) : TyAt x n form base len lev p H' := let ⟨d, fs, h1, r⟩ := y.at_; ⟨d, fs, l _ _ h1, r⟩
theorem Le.del {M : List Addr} : Le (H.del M) H := fun _ _ e => (of_del e).1
theorem MadeTy.nex {t d kd x p : Addr} {fs : List (Str × AV)} {n : Int} {m k : Nat} {form : Str} (T : TypesAt w H t d kd fs n m k) (y : MadeTy w H t d kd fs n m k x p form H') {M : List Addr} (hM : ∀ b ∈ M, H b ≠ none) : TyAt x (n + 1) form .none 0 0 p (H'.del M) ∧ H'.del M p = some (.list []) := by
  obtain ⟨d, fs, h1, r⟩ := y.ty.at_
  exact ⟨⟨d, fs, del_of h1 fun q => hM _ q y.new, r⟩, del_of y.par fun q => hM _ q y.newp⟩
theorem binds_new3 {P : Params} {a b c : AV} : Binds (MK P) fTypes_new 5 [a, b, c] [a, b, c, .str "", .str ""] := by
  refine ⟨rfl, by kernel_rfl, by kernel_rfl, fun s vs hk o => ?_⟩
  cases o with | cons o1 o => cases o with | cons o2 o => cases o with | cons o3 o =>
  cases o
  exact ⟨[_, _, _, _, _], .cons o1 (.cons o2 (.cons o3 (.cons ⟨_, rfl⟩ (.cons ⟨_, rfl⟩ .nil)))), binds_K hk rfl oNew_dv rfl rfl rfl⟩
theorem binds_new5 {P : Params} {a b c d e : AV} : Binds (MK P) fTypes_new 5 [a, b, c, d, e] [a, b, c, d, e] := by
  refine ⟨rfl, by kernel_rfl, by kernel_rfl, fun s vs hk o => ?_⟩
  cases o with | cons o1 o => cases o with | cons o2 o => cases o with | cons o3 o => cases o with | cons o4 o => cases o with | cons o5 o =>
  cases o
  exact ⟨[_, _, _, _, _], .cons o1 (.cons o2 (.cons o3 (.cons o4 (.cons o5 .nil)))), binds_K hk rfl oNew_dv rfl rfl rfl⟩
/-- types.new(..) -/
theorem ev_newm3 {x : Str} {xp ap pos : Pos} {e1 e2 : PySem.Expr} {t d kd : Addr} {fs : List (Str × AV)} {n size : Int} {m k : Nat} {form : Str} (T : TypesAt w H t d kd fs n m k) (hm : m ≤ 100000) (hk : k ≤ 900)
    (O : EvP prg w (MK w.params) C ρ H (.Name x xp) (.ref t)) (X : EvLP prg w (MK w.params) C ρ H [e1, e2] [.str form, .int size]) (hr : 4 ≤ C.r)
    (h1 : methodCallForm ([e1, e2].length + 0) (backTo pos (starEach [e1, e2] C.env)) (backToKw pos (keywordEach [] C.env)) = true := by rfl) (h2 : (ap.endLine == pos.line) = true := by rfl)
    (hpl : ((backTo pos (starEach [e2] C.env)).any (·.1)) = false := by rfl) (hst : starEach [e1, e2] C.env = (false, eval e1 C.env) :: starEach [e2] C.env := by rfl) :
    EvG prg w (MK w.params) C ρ H (.Call (.Attribute (.Name x xp) "new" ap) [e1, e2] [] pos) (fun a H' => ∃ x p, a = .ref x ∧ MadeTy w H t d kd fs n m k x p form H') :=
  ev_meth (P1 := fun l h => l = [.str form, .int size] ∧ h = H) O T.self T.no1 m_new (X.l ⟨rfl, rfl⟩) (fun avs H1 p => by obtain ⟨rfl, rfl⟩ := p; exact c_new T hm hk binds_new3) hr h1 h2 hpl hst
theorem ev_newm5 {x : Str} {xp ap pos : Pos} {e1 e2 e3 e4 : PySem.Expr} {t d kd : Addr} {fs : List (Str × AV)} {n size : Int} {m k : Nat} {form md lb : Str} (T : TypesAt w H t d kd fs n m k) (hm : m ≤ 100000) (hk : k ≤ 900)
    (O : EvP prg w (MK w.params) C ρ H (.Name x xp) (.ref t)) (X : EvLP prg w (MK w.params) C ρ H [e1, e2, e3, e4] [.str form, .int size, .str md, .str lb]) (hr : 4 ≤ C.r)
    (h1 : methodCallForm ([e1, e2, e3, e4].length + 0) (backTo pos (starEach [e1, e2, e3, e4] C.env)) (backToKw pos (keywordEach [] C.env)) = true := by rfl) (h2 : (ap.endLine == pos.line) = true := by rfl)
    (hpl : ((backTo pos (starEach [e2, e3, e4] C.env)).any (·.1)) = false := by rfl) (hst : starEach [e1, e2, e3, e4] C.env = (false, eval e1 C.env) :: starEach [e2, e3, e4] C.env := by rfl) :
    EvG prg w (MK w.params) C ρ H (.Call (.Attribute (.Name x xp) "new" ap) [e1, e2, e3, e4] [] pos) (fun a H' => ∃ x p, a = .ref x ∧ MadeTy w H t d kd fs n m k x p form H') :=
  ev_meth (P1 := fun l h => l = [.str form, .int size, .str md, .str lb] ∧ h = H) O T.self T.no1 m_new (X.l ⟨rfl, rfl⟩) (fun avs H1 p => by obtain ⟨rfl, rfl⟩ := p; exact c_new T hm hk binds_new5) hr h1 h2 hpl hst
end Mine
namespace Mine
variable {w : World} {H H' : AH} {C : Cx} {ρ : Rho}

theorem TypesAt.kdt {t d kd : Addr} {fs : List (Str × AV)} {n : Int} {m k : Nat} (T : TypesAt w H t d kd fs n m k) : kd ≠ t := by rintro rfl; obtain ⟨o, q⟩ := T.kn.dic; rw [T.self] at q; cases q
theorem TypesAt.live {t d kd : Addr} {fs : List (Str × AV)} {n : Int} {m k : Nat} (T : TypesAt w H t d kd fs n m k) : ∀ b ∈ [t, kd], H b ≠ none := by
  intro b hb q
  rcases List.mem_cons.mp hb with rfl | hb
  · rw [T.self] at q; cases q
  · rw [List.mem_singleton.mp hb] at q; obtain ⟨o, e⟩ := T.kn.dic; rw [e] at q; cases q
/-- self.name = self.new(form, size) -/
theorem init_step {name : Str} {tp sp sp2 ap p3 p4 pos pos' : Pos} {k1 k2 : Nat} {form : Str} {size n : Int} {t d kd : Addr} {fs : List (Str × AV)} {m k : Nat} {R : AF → Rho → AH → Prop} (T : TypesAt w H t d kd fs n m k) (hm : m ≤ 100000) (hk : k ≤ 900)
    (ns : C.scope.names[0]? = some (("self" : Str), .local)) (r0 : ρ 0 = some (.ref t)) (hr : 4 ≤ C.r) (ok : ∀ P, setOk (MK P) 236 name = true) (ne : (name == ("counter" : Str)) = false ∧ (name == ("known" : Str)) = false ∧ (name == ("new" : Str)) = false ∧ (name == ("string" : Str)) = false)
    (r : ∀ x p H2, TypesAt w H2 t d kd (putF name (.ref x) (putF "counter" (.int (n + 1)) fs)) (n + 1) (m + 1) (k + 1) → LeB [t, kd] H H2 → TyAt x (n + 1) form .none 0 0 p (H2.del [t, kd]) → H2.del [t, kd] p = some (.list []) → R .next ρ H2)
    (h1 : methodCallForm (2 + 0) (backTo pos (starEach [.Constant (.str form) k1 p3, .Constant (.int size) k2 p4] C.env)) (backToKw pos (keywordEach [] C.env)) = true := by rfl) (h2 : (ap.endLine == pos.line) = true := by rfl)
    (hpl : ((backTo pos (starEach [.Constant (.int size) k2 p4] C.env)).any (·.1)) = false := by rfl) (hst : starEach [.Constant (.str form) k1 p3, .Constant (.int size) k2 p4] C.env = (false, eval (.Constant (.str form) k1 p3) C.env) :: starEach [.Constant (.int size) k2 p4] C.env := by rfl)
    (hst2 : starEach [.Constant (.int size) k2 p4] C.env = (false, eval (.Constant (.int size) k2 p4) C.env) :: starEach [] C.env := by rfl)
    (hsw : swapsWith (.Call (.Attribute (.Name "self" sp2) "new" ap) [.Constant (.str form) k1 p3, .Constant (.int size) k2 p4] [] pos) (some (.Attribute (.Name "self" sp) name tp)) pos'.line C.env = pure false := by rfl) :
    Ex1 prg w (MK w.params) C ρ H (.Assign [.Attribute (.Name "self" sp) name tp] (.Call (.Attribute (.Name "self" sp2) "new" ap) [.Constant (.str form) k1 p3, .Constant (.int size) k2 p4] [] pos) pos') R := by
  refine ex_setattr (a := t) (d := d) (fs := putF "counter" (.int (n + 1)) fs) (ev_newm3 T hm hk (ev_local 0 ns r0) (.cons ev_str hst (.cons ev_int hst2 .nil)) hr h1 h2 hpl hst) (fun av H1 q => ?_) (ok _) (Nat.lt_of_le_of_lt (putF_length _ _ _) (Nat.lt_of_le_of_lt (Nat.succ_le_succ T.len) (by omega))) hsw
  obtain ⟨x, p, rfl, M⟩ := q
  obtain ⟨y1, y2⟩ := M.nex T T.live
  have l2 : LeB [t, kd] H1 (H1.set t (.inst 236 d (putF name (.ref x) (putF "counter" (.int (n + 1)) fs)))) := LeB.set (by simp)
  refine ⟨ev_local 0 ns r0, M.ts.self, r x p _ ⟨AH.set_self, ?_, ?_, ?_, ?_, ?_, ?_⟩ (M.le.trans l2) (y1.mono l2.del) (l2.del _ _ y2)⟩
  · rw [lookF_ne ne.1]; exact M.ts.cnt
  · rw [lookF_ne ne.2.1]; exact M.ts.kno
  · exact M.ts.kn.mono (AH.set_ne T.kdt) fun b xs q => by rw [AH.set_ne]; exact q; rintro rfl; rw [M.ts.self] at q; cases q
  · exact Nat.le_trans (putF_length _ _ _) (Nat.succ_le_succ M.ts.len)
  · rw [lookF_ne ne.2.2.1]; exact M.ts.no1
  · rw [lookF_ne ne.2.2.2]; exact M.ts.no2

structure Seven (w : World) (H : AH) (t : Addr) (H' : AH) : Prop where
  at_ : ∃ d kd fs x1 x2 x3 x4 x5 x6 x7 p1 p2 p3 p4 p5 p6 p7, TypesAt w H' t d kd fs 7 7 9 ∧ H kd = none ∧ (∀ b o, b ≠ t → H b = some o → H' b = some o) ∧
    (lookF "boolean" fs = some (.ref x1) ∧ lookF "char" fs = some (.ref x2) ∧ lookF "byte" fs = some (.ref x3) ∧ lookF "integer" fs = some (.ref x4) ∧ lookF "mask" fs = some (.ref x5) ∧ lookF "nil" fs = some (.ref x6) ∧ lookF "none" fs = some (.ref x7)) ∧
    (TyAt x1 1 "boolean" .none 0 0 p1 (H'.del [t, kd]) ∧ TyAt x2 2 "char" .none 0 0 p2 (H'.del [t, kd]) ∧ TyAt x3 3 "byte" .none 0 0 p3 (H'.del [t, kd]) ∧ TyAt x4 4 "integer" .none 0 0 p4 (H'.del [t, kd]) ∧ TyAt x5 5 "set" .none 0 0 p5 (H'.del [t, kd]) ∧ TyAt x6 6 "nil" .none 0 0 p6 (H'.del [t, kd]) ∧ TyAt x7 7 "none" .none 0 0 p7 (H'.del [t, kd]))
theorem b_tsi : ∀ vs : List Value, vs.length = 1 → bindArgs fTypes_init.fd ⟨vs, []⟩ = pure (((fTypes_init.scope.names.take 1).map (·.1)).zip vs) | [a], _ => by kernel_rfl
theorem c_Types_init {t d : Addr} (h : H t = some (.inst 236 d [])) : Fn prg w (MK w.params) 218 4 [.ref t] H (fun r H' => r = .none ∧ Seven w H t H') := by
  refine fn_def fTypes_init 1 k_Types_init (binds_pos rfl (by kernel_rfl) (by kernel_rfl) b_tsi) fun A h₀ L r hr => ?_
  show Exs _ _ _ _ _ _ (_ :: _) _
  refine exs_cons (ex_ini (.start h) (ev_local 0 rfl rfl) ev_int kz_ts_counter (by decide) fun H1 I1 => ?_)
  refine exs_cons (ex_setattr (a := t) (d := d) (fs := putF "counter" (.int 0) []) ev_dict0 (fun av H2 q => ?_) kz_ts_known (by decide))
  obtain ⟨kd, o, rfl, hkd, rfl, kn⟩ := q
  have kt : kd ≠ t := by rintro rfl; rw [I1.self] at hkd; cases hkd
  refine ⟨ev_local 0 rfl rfl, by rw [AH.set_ne kt.symm]; exact I1.self, ?_⟩
  have T0 : TypesAt w ((H1.set kd (.dic o)).set t (.inst 236 d (putF "known" (.ref kd) (putF "counter" (.int 0) [])))) t d kd (putF "known" (.ref kd) (putF "counter" (.int 0) [])) 0 0 2 :=
    ⟨AH.set_self, by kernel_rfl, by kernel_rfl, kn.mono (AH.set_ne kt) (fun b xs q => by rw [AH.set_ne]; exact q; rintro rfl; rw [AH.set_ne kt.symm, I1.self] at q; cases q), by show 2 ≤ 2; decide, by kernel_rfl, by kernel_rfl⟩
  have l0 : ∀ b o', b ≠ t → H b = some o' → ((H1.set kd (.dic o)).set t (.inst 236 d (putF "known" (.ref kd) (putF "counter" (.int 0) [])))) b = some o' := fun b o' n e => by
    rw [AH.set_ne n]; exact AH.set_keep hkd (I1.le b _ (by simpa using n) e)
  have hkd0 : H kd = none := by
    cases e : H kd with
    | none => rfl
    | some o' => rw [I1.le kd _ (by simpa using kt) e] at hkd; cases hkd
  generalize ((H1.set kd (.dic o)).set t (.inst 236 d (putF "known" (.ref kd) (putF "counter" (.int 0) [])))) = H2 at T0 l0
  refine exs_cons (init_step T0 (by decide) (by decide) rfl rfl hr (fun _ => kz_ts_boolean) (by decide) fun x1 p1 H3 T3 l3 y1 z1 => ?_)
  refine exs_cons (init_step T3 (by decide) (by decide) rfl rfl hr (fun _ => kz_ts_char) (by decide) fun x2 p2 H4 T4 l4 y2 z2 => ?_)
  refine exs_cons (init_step T4 (by decide) (by decide) rfl rfl hr (fun _ => kz_ts_byte) (by decide) fun x3 p3 H5 T5 l5 y3 z3 => ?_)
  refine exs_cons (init_step T5 (by decide) (by decide) rfl rfl hr (fun _ => kz_ts_integer) (by decide) fun x4 p4 H6 T6 l6 y4 z4 => ?_)
  refine exs_cons (init_step T6 (by decide) (by decide) rfl rfl hr (fun _ => kz_ts_mask) (by decide) fun x5 p5 H7 T7 l7 y5 z5 => ?_)
  refine exs_cons (init_step T7 (by decide) (by decide) rfl rfl hr (fun _ => kz_ts_nil) (by decide) fun x6 p6 H8 T8 l8 y6 z6 => ?_)
  refine exs_cons (init_step T8 (by decide) (by decide) rfl rfl hr (fun _ => kz_ts_none) (by decide) fun x7 p7 H9 T9 l9 y7 z7 => exs_nil ?_)
  have g8 := l9
  have g7 := l8.trans g8
  have g6 := l7.trans g7
  have g5 := l6.trans g6
  have g4 := l5.trans g5
  have g3 := l4.trans g4
  have g2 := l3.trans g3
  refine ⟨rfl, ⟨d, kd, _, x1, x2, x3, x4, x5, x6, x7, p1, p2, p3, p4, p5, p6, p7, T9, hkd0, fun b o' n e => ?_, ⟨by kernel_rfl, by kernel_rfl, by kernel_rfl, by kernel_rfl, by kernel_rfl, by kernel_rfl, by kernel_rfl⟩,
    ⟨y1.mono g3.del, y2.mono g4.del, y3.mono g5.del, y4.mono g6.del, y5.mono g7.del, y6.mono g8.del, y7⟩⟩⟩
  refine g2 b o' (fun q => ?_) (l0 b o' n e)
  rcases List.mem_cons.mp q with q | q
  · exact n q
  · rw [List.mem_singleton.mp q, hkd0] at e; cases e
end Mine
namespace Mine
variable {w : World} {H H' : AH} {C : Cx} {ρ : Rho}

def LoopB (R : AF → Rho → AH → Prop) (P Jn : Rho → AH → Prop) (H : AH) (f : AF) (ρ : Rho) (H' : AH) : Prop := match f with
  | .next => Jn ρ H' ∧ KR H H'
  | .cont => Jn ρ H' ∧ KR H H'
  | .brk => P ρ H'
  | .ret a => R (.ret a) ρ H'
/-- a loop with breaks: all ends meet in P -/
theorem ex_forB {x : Str} {xp pos : Pos} {iter : PySem.Expr} {body : List Stmt} {G : Nat → (Nat → AV → Prop) → AH → Prop} {R : AF → Rho → AH → Prop} (ix : Nat) (nx : C.scope.names[ix]? = some (x, .local)) (X : IterTo prg w (MK w.params) C ρ H iter G)
    (P : Rho → AH → Prop) (fin : ∀ r a, P r a → R .next r a)
    (Y : ∀ n Pi H0, G n Pi H0 → ∃ J : Nat → Rho → AH → Prop, J 0 ρ H0 ∧ (∀ i r a b, Loc H0 a b → J i r a → J i r b) ∧
      (∀ i r a av, i < n → Pi i av → J i r a → Exs prg w (MK w.params) C (r.set ix av) a body (LoopB R P (J (i + 1)) a)) ∧ (∀ r a, J n r a → P r a))
    (hs : ∀ x, foldedSetIterable iter C.env x = pure x := by intro _; rfl) : Ex1 prg w (MK w.params) C ρ H (.For (.Name x xp) iter body [] pos) R :=
  ex_for ix nx X (fun n Pi H0 g => let ⟨J, j0, st, tu, dn⟩ := Y n Pi H0 g; ⟨J, j0, st, fun i r a av h1 h2 h3 => (tu i r a av h1 h2 h3).imp fun f r' a' q => by cases f <;> first | exact q | exact fin _ _ q, fun r a j => fin _ _ (dn r a j)⟩) hs
theorem b_pick : ∀ vs : List Value, vs.length = 2 → bindArgs flaw_pick.fd ⟨vs, []⟩ = pure (((flaw_pick.scope.names.take 2).map (·.1)).zip vs) | [a, b], _ => by kernel_rfl
theorem b_pool : ∀ vs : List Value, vs.length = 1 → bindArgs flaw_pool.fd ⟨vs, []⟩ = pure (((flaw_pool.scope.names.take 1).map (·.1)).zip vs) | [a], _ => by kernel_rfl

structure PoolOk (H : AH) (pool figs : Addr) : Prop where
  at_ : ∃ (fl : List Int) (i mix : Int), H pool = some (.list [.ref figs, .int i, .int mix]) ∧ H figs = some (.list (fl.map .int)) ∧ 0 ≤ i ∧ fl.length ≤ 500
theorem fmod_nat {a : Int} {b : Nat} (hb : 0 < b) : ∃ v : Nat, a.fmod b = v ∧ v < b := by
  have h1 : 0 ≤ a.fmod b := Int.fmod_nonneg_of_pos _ (by omega)
  have h2 : a.fmod b < b := Int.fmod_lt_of_pos _ (by omega)
  exact ⟨(a.fmod b).toNat, by omega, by omega⟩
theorem c_pick {pool figs : Addr} {b : Nat} (hb : 0 < b) (o : PoolOk H pool figs) : Fn prg w (MK w.params) 254 0 [.ref pool, .int b] H (fun r H' => ∃ v : Nat, r = .int v ∧ v < b ∧ PoolOk H' pool figs ∧ LeB [pool] H H') := by
  obtain ⟨fl, i, mix, hp, hf, hi, hl⟩ := o.at_
  have hne : figs ≠ pool := by
    rintro rfl; rw [hp] at hf
    cases fl with
    | nil => simp at hf
    | cons x xs => simp at hf
  refine fn_def flaw_pick 2 k_law_pick (binds_pos rfl (by kernel_rfl) (by kernel_rfl) b_pick) fun A h₀ L r hr => ?_
  show Exs _ _ _ _ _ _ (_ :: _) _
  have tail : ∀ (z : Int) (ρ : Rho) (H1 : AH), ρ 1 = some (.int b) → ρ 2 = some (.int z) → PoolOk H1 pool figs → LeB [pool] H H1 → ∀ {p1 p2 p3 p4 : Pos}, Exs prg w (MK w.params) (flaw_pick.cx A h₀ L r) ρ H1 [.Return (some (.BinOp (.Name "figure" p1) .Mod (.Name "bound_x" p2) p3)) p4] (fun f _ H' => FnR (fun r H' => ∃ v : Nat, r = .int v ∧ v < b ∧ PoolOk H' pool figs ∧ LeB [pool] H H') f H') := by
    intro z ρ H1 r1 r2 po l p1 p2 p3 p4
    obtain ⟨v, e, hv⟩ := fmod_nat (a := z) hb
    exact exs_cons (ex_ret (ev_bin (ev_local 2 rfl r2) (ev_local 1 rfl r1) (by show (if (b : Int) = 0 then none else some _) = _; rw [if_neg (by omega)])) ⟨v, by rw [e], hv, po, l⟩)
  have lf : (fl.map AV.int).length < 2 ^ 62 := by rw [List.length_map]; omega
  refine exs_cons (ex_if (ts_cmp (ev_sub (ev_local 0 rfl rfl) ev_int (.inl hp) rfl (by decide) (by decide)) (ev_len 3 rfl ⟨b_len, PyProof.Rows.Boot.len⟩ (ev_sub (ev_local 0 rfl rfl) ev_int (.inl hp) rfl (by decide) (by decide)) hf lf) rfl) (fun e => ?_) (fun e => ?_))
  · have e : i < ((fl.map AV.int).length : Int) := of_decide_eq_true e
    rw [List.length_map] at e
    obtain ⟨x, hx⟩ : ∃ x, fl[i.toNat]? = some x := ⟨_, List.getElem?_eq_getElem (by omega)⟩
    refine exs_cons (ex_assignP 2 rfl (ev_sub (ev_sub (ev_local 0 rfl rfl) ev_int (.inl hp) rfl (by decide) (by decide)) (ev_sub (ev_local 0 rfl rfl) ev_int (.inl hp) rfl (by decide) (by decide)) (.inl hf) (by rw [List.getElem?_map, hx]; rfl) hi (by omega)) ?_)
    refine exs_cons (ex_augitem (ev_local 0 rfl rfl) ev_int ev_int hp rfl (by decide) (by decide) (exs_nil ?_))
    exact tail x _ _ rfl rfl ⟨fl, i + 1, mix, AH.set_self, by rw [AH.set_ne hne]; exact hf, by omega, hl⟩ (LeB.set (by simp))
  · refine exs_cons (ex_if (ts_cmp (ev_len 3 rfl ⟨b_len, PyProof.Rows.Boot.len⟩ (ev_sub (ev_local 0 rfl rfl) ev_int (.inl hp) rfl (by decide) (by decide)) hf lf) ev_int rfl) (fun e2 => ?_) (fun e2 => ?_))
    · exact exs_cons (ex_assignP 2 rfl ev_int (exs_nil (exs_nil (tail 0 _ _ rfl rfl o LeB.refl))))
    · refine exs_cons (ex_setitem (k := 2) (a := pool) (P := fun a h => a = .int ((mix * 37 + 11).fmod 1009) ∧ h = H) ((ev_bin (ev_bin (ev_bin (ev_sub (k := 2) (ev_local 0 rfl rfl) ev_int (.inl hp) rfl (by decide) (by decide)) ev_int rfl) ev_int rfl) ev_int rfl).g ⟨rfl, rfl⟩) (fun av H1 q => ?_) (by decide) (by decide))
      obtain ⟨rfl, rfl⟩ := q
      refine ⟨_, ev_local 0 rfl rfl, ev_int, hp, by show 2 < 3; decide, ?_⟩
      refine exs_cons (ex_assignP 2 rfl (ev_sub (k := 2) (ev_local 0 rfl rfl) ev_int (.inl AH.set_self) rfl (by decide) (by decide)) (exs_nil (exs_nil ?_)))
      exact tail _ _ _ rfl rfl ⟨fl, i, _, AH.set_self, by rw [AH.set_ne hne]; exact hf, hi, hl⟩ (LeB.set (by simp))

/-- _law_pick(pool, e) -/
theorem ev_pick {xp pos : Pos} {e1 e2 : PySem.Expr} {pool figs : Addr} {b : Nat} (i : Nat) (n : C.scope.names[i]? = some (("_law_pick" : Str), .globalImplicit)) (X : EvLP prg w (MK w.params) C ρ H [e1, e2] [.ref pool, .int b]) (hb : 0 < b) (o : PoolOk H pool figs) (hr : 2 ≤ C.r)
    (hpl : ((backTo pos (starEach [e2] C.env)).any (·.1)) = false := by rfl) (hst : starEach [e1, e2] C.env = (false, eval e1 C.env) :: starEach [e2] C.env := by rfl) :
    EvG prg w (MK w.params) C ρ H (.Call (.Name "_law_pick" xp) [e1, e2] [] pos) (fun r H' => ∃ v : Nat, r = .int v ∧ v < b ∧ PoolOk H' pool figs ∧ LeB [pool] H H') :=
  ev_callG (P1 := fun l h => l = [.ref pool, .int b] ∧ h = H) i n g_law_pick (X.l ⟨rfl, rfl⟩) (fun l h1 p => by obtain ⟨rfl, rfl⟩ := p; exact c_pick hb o) hr hpl hst

theorem c_pool {l : Addr} {vs : List Value} {ns : List Int} (hi : IntsAre vs ns) (hz : ns.length ≤ 1048576) :
    FnZ (fun h => h.IsList l vs.toArray) prg w (MK w.params) 247 0 [.ref l] H (fun r H' => ∃ pool figs, r = .ref pool ∧ H pool = none ∧ H figs = none ∧ pool ≠ figs ∧ PoolOk H' pool figs ∧ LeB [] H H') := by
  refine fn_defZ _ (fun a b st q => q.at fun o e => st _ o e) flaw_pool 1 k_law_pool (binds_pos rfl (by kernel_rfl) (by kernel_rfl) b_pool) fun A h₀ L r hl hr => ?_
  show Exs _ _ _ _ _ _ (_ :: _) _
  refine exs_cons (ex_assign (P := fun a h => ∃ f, a = .ref f ∧ H f = none ∧ h = H.set f (.list [])) 1 rfl (ev_list (P := fun l h => l = [] ∧ h = H) (evl_nil ⟨rfl, rfl⟩) fun l h1 t p hn => ?_) (fun a h p => ?_))
  · obtain ⟨rfl, rfl⟩ := p; exact ⟨by show 0 ≤ _; decide, t, rfl, hn, rfl⟩
  obtain ⟨figs, rfl, hf0, rfl⟩ := p
  refine exs_cons (ex_assignP 2 rfl ev_int ?_)
  refine exs_cons (ex_forB (G := fun n Pi H0 => ∃ xs : List AV, (xs = (ns.take 40).map .int ∧ H0 = H.set figs (.list [])) ∧ n = xs.length ∧ Pi = fun i a => xs[i]? = some a) 3 rfl (it_list (P := fun xs H0 => xs = (ns.take 40).map .int ∧ H0 = H.set figs (.list [])) ?_)
    (fun r a => ∃ (fl : List Int) (mix : Int), r 1 = some (.ref figs) ∧ r 2 = some (.int mix) ∧ a figs = some (.list (fl.map .int)) ∧ fl.length ≤ 500 ∧ LeB [figs] H a) ?_ ?_)
  · exact fun s Q E S => ((ev_slice40 0 rfl rfl hl hi hz).imp fun a H1 ⟨b, h1, h2, h3⟩ => ⟨b, _, _, h1, h2, h3, S.sep, rfl, rfl⟩) s Q E S
  · rintro r a ⟨fl, mix, h1, h2, h3, h4, h5⟩
    refine exs_cons (ex_retG (ev_list (P := fun l h => l = [.ref figs, .int 0, .int mix] ∧ h = a) ((EvLP.cons (ev_local 1 rfl h1) rfl (.cons ev_int rfl (.cons (ev_local 2 rfl h2) rfl .nil))).l ⟨rfl, rfl⟩) (R := fun r H' => ∃ pool, r = .ref pool ∧ a pool = none ∧ H' = a.set pool (.list [.ref figs, .int 0, .int mix])) fun l h1 t p hn => ?_) fun av H' p => ?_)
    · obtain ⟨rfl, rfl⟩ := p; exact ⟨by show 3 ≤ _; decide, t, rfl, hn, rfl⟩
    · obtain ⟨pool, rfl, hn, rfl⟩ := p
      refine ⟨pool, figs, rfl, ?_, hf0, (by rintro rfl; rw [h3] at hn; cases hn), ⟨fl, 0, mix, AH.set_self, AH.set_keep hn h3, by decide, h4⟩, (LeB.newer hf0 h5).trans (LeB.new hn)⟩
      cases e : H pool with
      | none => rfl
      | some o => exact absurd (LeB.newer (m := []) hf0 h5 pool o (by simp) e) (by rw [hn]; exact fun q => by cases q)
  rintro n Pi H0 ⟨xs, ⟨rfl, e0⟩, rfl, rfl⟩
  refine ⟨fun k r a => ∃ (fl : List Int) (mix : Int), r 1 = some (.ref figs) ∧ r 2 = some (.int mix) ∧ a figs = some (.list (fl.map .int)) ∧ fl.length ≤ 400 ∧ LeB [figs] H a, ?_, ?_, ?_, ?_⟩
  · exact ⟨[], 5, rfl, rfl, by rw [e0]; exact AH.set_self, by simp, by rw [e0]; exact LeB.set (by simp)⟩
  · rintro i r a b lo ⟨fl, mix, h1, h2, h3, h4, h5⟩
    refine ⟨fl, mix, h1, h2, lo.fact h3 (fun _ q => by cases q), h4, fun x o nx e => ?_⟩
    exact lo.old (h5 x o nx e) (show H0 x = some o by rw [e0, AH.set_ne (by simpa using nx)]; exact e)
  · rintro i r a av hk hav ⟨fl, mix, h1, h2, h3, h4, h5⟩
    obtain ⟨z, rfl⟩ : ∃ z, av = .int z := by
      rw [List.getElem?_map] at hav
      cases q : (ns.take 40)[i]? with
      | none => rw [q] at hav; cases hav
      | some z => rw [q] at hav; cases hav; exact ⟨z, rfl⟩
    show Exs _ _ _ _ _ _ (_ :: _) _
    refine exs_cons (ex_assign 4 rfl (ev_intc 7 rfl b_int (ev_local 3 rfl rfl)) fun av h p => ?_)
    obtain ⟨rfl, rfl⟩ := p
    refine exs_cons (ex_assignP 2 rfl (ev_bin (ev_bin (ev_bin (ev_local 2 rfl h2) ev_int rfl) (ev_local 4 rfl rfl) rfl) ev_int rfl) ?_)
    refine exs_cons (ex_assign 5 rfl (ev_absc 8 rfl b_abs (ev_local 4 rfl rfl)) fun av h p => ?_)
    obtain ⟨rfl, rfl⟩ := p
    generalize hz0 : (if z < 0 then -z else z) = rest
    refine exs_cons (ex_forB (G := fun m Pi H0 => (m = 60 ∧ H0 = h) ∧ Pi = fun i a => a = .int i) 6 rfl (it_range 9 rfl b_range (ev_int.g ⟨60, rfl, by decide, rfl, rfl⟩))
      (fun r a => ∃ (fl : List Int) (mix : Int), r 1 = some (.ref figs) ∧ r 2 = some (.int mix) ∧ a figs = some (.list (fl.map .int)) ∧ fl.length ≤ 460 ∧ LeB [figs] h a) ?_ ?_)
    · rintro r a ⟨fl, mix, g1, g2, g3, g4, g5⟩
      refine exs_cons (ex_if (ts_cmp (ev_len 10 rfl ⟨b_len, PyProof.Rows.Boot.len⟩ (ev_local 1 rfl g1) g3 (by rw [List.length_map]; omega)) ev_int rfl) (fun e => exs_cons (ex_brk ⟨fl, mix, g1, g2, g3, by omega, h5.trans g5⟩)) (fun e => exs_nil (exs_nil ⟨⟨fl, mix, g1, g2, g3, ?_, h5.trans g5⟩, g5.kr ?_⟩)))
      · have e : ¬ (400 < ((fl.map AV.int).length : Int)) := of_decide_eq_false e
        rw [List.length_map] at e; omega
      · intro b hb o q
        rw [List.mem_singleton.mp hb, h3] at q; cases q
    rintro m Pi H2 ⟨⟨rfl, e2⟩, rfl⟩
    refine ⟨fun k r a => ∃ (fl : List Int) (mix rest : Int), r 1 = some (.ref figs) ∧ r 2 = some (.int mix) ∧ r 5 = some (.int rest) ∧ a figs = some (.list (fl.map .int)) ∧ fl.length ≤ 400 + k ∧ LeB [figs] h a, ?_, ?_, ?_, ?_⟩
    · exact ⟨fl, _, rest, h1, rfl, rfl, e2 ▸ h3, by omega, e2 ▸ LeB.refl⟩
    · rintro i r a b lo ⟨fl, mix, rest, g1, g2, g3, g4, g5, g6⟩
      refine ⟨fl, mix, rest, g1, g2, g3, lo.fact g4 (fun _ q => by cases q), g5, fun x o nx e => ?_⟩
      exact lo.old (g6 x o nx e) (show H2 x = some o by rw [e2]; exact e)
    · rintro k r a av hk2 rfl ⟨fl, mix, rest, g1, g2, g3, g4, g5, g6⟩
      show Exs _ _ _ _ _ _ (_ :: _) _
      refine exs_cons (ex_append (P := fun av h => av = .int (rest.fmod 840) ∧ h = a) (ev_local 1 rfl g1) g4 (EvP.g (P := fun av h => av = .int (rest.fmod 840) ∧ h = a) (ev_bin (ev_local 5 rfl g3) ev_int rfl) ⟨rfl, rfl⟩) fun av h p => ?_)
      obtain ⟨rfl, rfl⟩ := p
      refine ⟨_, g4, by rw [List.length_map]; omega, ?_⟩
      refine exs_cons (ex_augdiv 5 rfl g3 ev_int (by decide) (fun _ => rfl) ?_)
      have f1 : (h.set figs (.list (fl.map AV.int ++ [.int (rest.fmod 840)]))) figs = some (.list ((fl ++ [rest.fmod 840]).map AV.int)) := by rw [AH.set_self]; simp
      have f2 := g6.trans (LeB.set (H := h) (a := figs) (o := .list (fl.map AV.int ++ [.int (rest.fmod 840)])) (m := [figs]) (by simp))
      refine exs_cons (ex_if (ts_cmp (ev_local 5 rfl rfl) ev_int rfl) (fun e => exs_cons (ex_brk ?_)) (fun e => exs_nil (exs_nil ?_)))
      · exact ⟨_, mix, g1, g2, f1, by simp; omega, f2⟩
      refine ⟨⟨_, mix, _, g1, g2, rfl, f1, by simp; omega, f2⟩, ?_⟩
      exact (LeB.set (m := [figs]) (by simp)).kr (by intro b hb o q; rw [List.mem_singleton.mp hb, g4] at q; cases q)
    · rintro r a ⟨fl, mix, rest, g1, g2, g3, g4, g5, g6⟩
      exact ⟨fl, mix, g1, g2, g4, by omega, g6⟩
  · rintro r a ⟨fl, mix, h1, h2, h3, h4, h5⟩
    exact ⟨fl, mix, h1, h2, h3, by omega, h5⟩
end Mine
namespace Mine
variable {w : World} {H H' G G' : AH} {C : Cx} {ρ : Rho} {W : List Sh} {ta : Option Nat → Addr} {num : Option Nat → Int} {rs : List Addr} {S S' : List Addr} {n : Int}

def ShPre (G : AH) (S : List Addr) (sh : Addr) : Sh → Prop
  | .proc sides back => ∃ sl ts, G sh = some (.tup [.str "proc", .ref sl, .int (idxI back)]) ∧ sl ∈ S ∧ G sl = some (.list (ts.map .ref)) ∧ PairsOk G ts sides
  | s => ShOk G sh s
def RowPre (G : AH) (S : List Addr) (r t : Addr) (s : Sh) : Prop := ∃ sh, G r = some (.tup [.ref t, .ref sh]) ∧ ShPre G S sh s
theorem ShPre.mono {sh : Addr} {s : Sh} (l : Le G G') (k : ∀ a ∈ S, a ∈ S') (x : ShPre G S sh s) : ShPre G' S' sh s := by
  cases s with
  | proc sides back => obtain ⟨sl, ts, h1, h2, h3, h4⟩ := x; exact ⟨sl, ts, l _ _ h1, k _ h2, l _ _ h3, h4.mono l⟩
  | _ => exact l _ _ x
theorem RowPre.mono {r t : Addr} {s : Sh} (l : Le G G') (k : ∀ a ∈ S, a ∈ S') (x : RowPre G S r t s) : RowPre G' S' r t s := let ⟨sh, h, q⟩ := x; ⟨sh, l _ _ h, q.mono l k⟩

def TyOk (G : AH) (ta : Option Nat → Addr) (S : List Addr) (x : Addr) (n : Int) (s : Sh) : Prop :=
  ∃ lev par, TyAt x n (formOf s) (baseOf ta s) (lenOf s) lev par G ∧ ∀ sides back, s = .proc sides back → par ∉ S ∧ ∃ os, G par = some (.list (os.map .ref)) ∧ SidesOk G ta os sides
structure Part (G : AH) (W : List Sh) (ta : Option Nat → Addr) (num : Option Nat → Int) (rs S : List Addr) (n : Int) : Prop where
  ty : ∀ i s, W[i]? = some s → TyOk G ta S (ta (some i)) (num (some i)) s
  non : ∃ lev par, TyAt (ta none) (num none) "none" .none 0 lev par G
  inj : ∀ i j, Valid W i → Valid W j → num i = num j → i = j
  le : ∀ i, Valid W i → num i ≤ n
  rlen : rs.length = W.length
  row : ∀ i s r, W[i]? = some s → rs[i]? = some r → RowPre G S r (ta (some i)) s
  wf : Wf W
  char : ∀ i, W[i]? = some .char ↔ i = 2
  live : ∀ a ∈ S, G a ≠ none
theorem TyOk.mono {x : Addr} {s : Sh} (l : Le G G') (t : TyOk G ta S x n s) : TyOk G' ta S x n s :=
  let ⟨lev, par, h1, h3⟩ := t; ⟨lev, par, h1.mono l, fun a b e => let ⟨q0, os, q1, q2⟩ := h3 a b e; ⟨q0, os, l _ _ q1, q2.mono l⟩⟩
theorem Part.mono (l : Le G G') (P : Part G W ta num rs S n) : Part G' W ta num rs S n where
  ty := fun i s e => (P.ty i s e).mono l
  non := let ⟨a, b, h⟩ := P.non; ⟨a, b, h.mono l⟩
  inj := P.inj
  le := P.le
  rlen := P.rlen
  row := fun i s r h1 h2 => (P.row i s r h1 h2).mono l fun _ q => q
  wf := P.wf
  char := P.char
  live := fun a h q => by
    cases e : G a with
    | none => exact P.live a h e
    | some o => rw [l _ _ e] at q; cases q

def ups {α : Type} (f : Option Nat → α) (i : Nat) (x : α) : Option Nat → α := fun j => if j = some i then x else f j
theorem ups_self {α : Type} {f : Option Nat → α} {i : Nat} {x : α} : ups f i x (some i) = x := if_pos rfl
theorem ups_ne {α : Type} {f : Option Nat → α} {i : Nat} {x : α} {j : Option Nat} (h : j ≠ some i) : ups f i x j = f j := if_neg h
theorem base_ups {i : Nat} {x : Addr} {s : Sh} (h : ShWf W i s) : baseOf (ups ta i x) s = baseOf ta s := by
  cases s with
  | rcd a => cases a with
    | none => rfl
    | some a => have := h.1; show AV.ref (ups ta i x (some a)) = _; rw [ups_ne (by intro q; cases q; omega)]; rfl
  | ptr a => have := h.1; show AV.ref (ups ta i x (some a)) = _; rw [ups_ne (by intro q; cases q; omega)]; rfl
  | arr c k => have : k < i := h; show AV.ref (ups ta i x (some k)) = _; rw [ups_ne (by intro q; cases q; omega)]; rfl
  | proc sd b =>
    show AV.ref (ups ta i x b) = _
    rw [ups_ne]; rfl
    rintro rfl
    exact absurd (h.2.1 i rfl) (by omega)
  | _ => rfl
theorem sides_ups {i : Nat} {x : Addr} {os : List Addr} {ps : List (Nat × Nat)} (o : SidesOk G ta os ps) (h : ∀ p ∈ ps, p.2 < i) : SidesOk G (ups ta i x) os ps := by
  induction o with
  | nil => exact .nil
  | @cons o os p ps h1 _ ih =>
    refine .cons ?_ (ih fun p hp => h p (List.mem_cons_of_mem _ hp))
    have := h p List.mem_cons_self
    rw [ups_ne (by intro q; cases q; omega)]; exact h1
theorem shwf_mono {s t : Sh} {i : Nat} (h : ShWf W i s) : ShWf (W ++ [t]) i s := by
  have g : ∀ {a : Nat} {b : Option Nat}, W[a]? = some (Sh.rcd b) → (W ++ [t])[a]? = some (Sh.rcd b) := fun {a b} e => by
    rw [List.getElem?_append_left (get_lt e)]; exact e
  cases s with
  | rcd a => cases a with
    | none => trivial
    | some a => exact ⟨h.1, h.2.elim fun b e => ⟨b, g e⟩⟩
  | ptr a => exact ⟨h.1, h.2.elim fun b e => ⟨b, g e⟩⟩
  | arr c k => exact h
  | proc sd b => exact h
  | _ => trivial
theorem ty_ups {i : Nat} {x y : Addr} {s : Sh} {k : Int} (hw : ShWf W i s) (t : TyOk G ta S y k s) {j : Nat} (hj : i ≤ j) : TyOk G (ups ta j x) S y k s := by
  obtain ⟨lev, par, h1, h3⟩ := t
  have hw' : ShWf W j s := by
    cases s with
    | rcd a => cases a with
      | none => trivial
      | some a => exact ⟨Nat.lt_of_lt_of_le hw.1 hj, hw.2⟩
    | ptr a => exact ⟨Nat.lt_of_lt_of_le hw.1 hj, hw.2⟩
    | arr c k => exact Nat.lt_of_lt_of_le hw hj
    | proc sd b => exact ⟨fun p hp => ⟨(hw.1 p hp).1, Nat.lt_of_lt_of_le (hw.1 p hp).2 hj⟩, fun b e => Nat.lt_of_lt_of_le (hw.2.1 b e) hj, hw.2.2⟩
    | _ => trivial
  refine ⟨lev, par, by rw [base_ups hw']; exact h1, fun sd b e => ?_⟩
  obtain ⟨q0, os, q1, q2⟩ := h3 sd b e
  subst e
  exact ⟨q0, os, q1, sides_ups q2 fun p hp => (hw'.1 p hp).2⟩
/-- one list of sides more -/
theorem Part.addS {sl : Addr} (P : Part G W ta num rs S n) (l : Le G G') (h0 : G sl = none) (h1 : G' sl ≠ none) : Part G' W ta num rs (sl :: S) n where
  ty := fun i s e => by
    obtain ⟨lev, par, q1, q2⟩ := P.ty i s e
    refine ⟨lev, par, q1.mono l, fun a b e => ?_⟩
    obtain ⟨r0, os, r1, r2⟩ := q2 a b e
    refine ⟨fun q => ?_, os, l _ _ r1, r2.mono l⟩
    rcases List.mem_cons.mp q with rfl | q
    · rw [h0] at r1; cases r1
    · exact r0 q
  non := (P.mono l).non
  inj := P.inj
  le := P.le
  rlen := P.rlen
  row := fun i s r h1 h2 => (P.row i s r h1 h2).mono l fun _ q => List.mem_cons_of_mem _ q
  wf := P.wf
  char := P.char
  live := fun a h => by
    rcases List.mem_cons.mp h with rfl | h
    · exact h1
    · exact (P.mono l).live a h

/-- one row more -/
theorem Part.snoc {x r : Addr} {s : Sh} (P : Part G W ta num rs S n)
    (hw : ShWf W W.length s) (nc : s ≠ .char ∨ W.length = 2) (n2 : W.length ≠ 2 ∨ s = .char) (t : TyOk G ta S x (n + 1) s) (hr : RowPre G S r x s) : Part G (W ++ [s]) (ups ta W.length x) (ups num W.length (n + 1)) (rs ++ [r]) S (n + 1) := by
  have ge : ∀ {i u}, (W ++ [s])[i]? = some u → (i < W.length ∧ W[i]? = some u) ∨ (i = W.length ∧ u = s) := fun {i u} e => by
    by_cases h : i < W.length
    · rw [List.getElem?_append_left h] at e; exact .inl ⟨h, e⟩
    · have hl := (List.getElem?_eq_some_iff.mp e).1
      rw [List.length_append] at hl
      have : i = W.length := by simp at hl; omega
      subst this
      rw [List.getElem?_append_right (Nat.le_refl _)] at e
      simp at e
      exact .inr ⟨rfl, e.symm⟩
  have vv : ∀ {i : Option Nat}, Valid (W ++ [s]) i → (Valid W i ∧ i ≠ some W.length) ∨ i = some W.length := fun {i} v => by
    cases i with
    | none => exact .inl ⟨trivial, fun q => by cases q⟩
    | some i =>
      have : i < (W ++ [s]).length := v
      rw [List.length_append] at this; simp at this
      by_cases h : i < W.length
      · exact .inl ⟨h, fun q => by cases q; omega⟩
      · exact .inr (by congr 1; omega)
  refine ⟨fun i u e => ?_, ?_, fun i j vi vj e => ?_, fun i vi => ?_, ?_, fun i u r' e er => ?_, fun i u e => ?_, fun i => ?_, ?_⟩
  · rcases ge e with ⟨hi, e'⟩ | ⟨rfl, rfl⟩
    · rw [ups_ne (by intro q; cases q; omega), ups_ne (by intro q; cases q; omega)]
      exact ty_ups (P.wf i u e') (P.ty i u e') (Nat.le_of_lt hi)
    · rw [ups_self, ups_self]; exact ty_ups hw t (Nat.le_refl _)
  · rw [ups_ne (by intro q; cases q), ups_ne (by intro q; cases q)]; exact P.non
  · rcases vv vi with ⟨a1, a2⟩ | rfl <;> rcases vv vj with ⟨b1, b2⟩ | rfl
    · rw [ups_ne a2, ups_ne b2] at e; exact P.inj i j a1 b1 e
    · rw [ups_ne a2, ups_self] at e; have := P.le i a1; omega
    · rw [ups_ne b2, ups_self] at e; have := P.le j b1; omega
    · rfl
  · rcases vv vi with ⟨a1, a2⟩ | rfl
    · rw [ups_ne a2]; have := P.le i a1; omega
    · rw [ups_self]; exact Int.le_refl _
  · simp [P.rlen]
  · rcases ge e with ⟨hi, e'⟩ | ⟨rfl, rfl⟩
    · rw [ups_ne (by intro q; cases q; omega)]
      rw [List.getElem?_append_left (by rw [P.rlen]; exact hi)] at er
      exact P.row i u r' e' er
    · rw [ups_self]
      rw [← P.rlen, List.getElem?_append_right (Nat.le_refl _)] at er
      simp at er; subst er; exact hr
  · rcases ge e with ⟨hi, e'⟩ | ⟨rfl, rfl⟩
    · exact shwf_mono (P.wf i u e')
    · exact shwf_mono hw
  · constructor
    · intro e
      rcases ge e with ⟨hi, e'⟩ | ⟨rfl, rfl⟩
      · exact (P.char i).mp e'
      · rcases nc with q | q
        · exact absurd rfl q
        · exact q
    · rintro rfl
      by_cases h : 2 < W.length
      · rw [List.getElem?_append_left h]; exact (P.char 2).mpr rfl
      · rcases n2 with q | q
        · exfalso
          have : W[2]? = some .char := (P.char 2).mpr rfl
          exact h (get_lt this)
        · exfalso
          have : W[2]? = some .char := (P.char 2).mpr rfl
          exact h (get_lt this)
  · exact P.live
end Mine
namespace Mine
variable {w : World} {H H' G G' : AH} {C : Cx} {ρ : Rho} {W : List Sh} {ta : Option Nat → Addr} {num : Option Nat → Int} {rs : List Addr} {S S' : List Addr} {n : Int} {K : Frag} {prog : Program}

theorem EvG.p {e : PySem.Expr} {av : AV} (x : EvG prog w K C ρ H e (fun a h => a = av ∧ h = H)) : EvP prog w K C ρ H e av :=
  fun s Q E S k => x s Q E S fun a H' v h' tk q o S' => by obtain ⟨rfl, rfl⟩ := q; exact k v h' tk o S'
theorem ex_ifJ {t : PySem.Expr} {b o : List Stmt} {pos : Pos} {c : Bool} {R : AF → Rho → AH → Prop} (T : TsP prog w K C ρ H t c) (P : Rho → AH → Prop) (y : c = true → Exs prog w K C ρ H b (fun f r h => f = .next ∧ P r h)) (n : c = false → Exs prog w K C ρ H o (fun f r h => f = .next ∧ P r h))
    (fin : ∀ r h, P r h → R .next r h) : Ex1 prog w K C ρ H (.If t b o pos) R :=
  ex_if T (fun e => (y e).imp fun f r h q => by obtain ⟨rfl, p⟩ := q; exact fin r h p) (fun e => (n e).imp fun f r h q => by obtain ⟨rfl, p⟩ := q; exact fin r h p)

/-- what stays: neither named nor a loop's own -/
def AH.stat (M : List Addr) (H : AH) : AH := fun b => if b ∈ M then none else match H b with
  | some (.raw _) => none
  | x => x
theorem stat_of {M : List Addr} {b : Addr} {o : AO} (h : H b = some o) (n : b ∉ M) (r : ∀ q, o ≠ .raw q) : H.stat M b = some o := by
  unfold AH.stat; rw [if_neg n, h]; cases o <;> first | rfl | exact absurd rfl (r _)
theorem of_stat {M : List Addr} {b : Addr} {o : AO} (h : H.stat M b = some o) : H b = some o ∧ b ∉ M ∧ ∀ q, o ≠ .raw q := by
  unfold AH.stat at h
  by_cases q : b ∈ M
  · rw [if_pos q] at h; cases h
  · rw [if_neg q] at h
    cases e : H b with
    | none => rw [e] at h; cases h
    | some o' =>
      rw [e] at h
      cases o' <;> first | (cases h; exact ⟨rfl, q, fun _ q => (by cases q)⟩) | cases h
theorem stat_le {M : List Addr} : Le (H.stat M) H := fun _ _ e => (of_stat e).1
theorem LeB.stat {M : List Addr} (l : LeB M H H') : Le (H.stat M) (H'.stat M) := fun b o e => let ⟨h, n, r⟩ := of_stat e; stat_of (l b o n h) n r
theorem stat_sub {M M' : List Addr} (k : ∀ a ∈ M, a ∈ M') : Le (H.stat M') (H.stat M) := fun b o e => let ⟨h, n, r⟩ := of_stat e; stat_of h (fun q => n (k _ q)) r
/-- what is new may be named -/
theorem LeB.statN {M m : List Addr} (l : LeB (m ++ M) H H') (k : ∀ a ∈ m, H a = none) : Le (H.stat M) (H'.stat (m ++ M)) := fun b o e => by
  obtain ⟨h, n, r⟩ := of_stat e
  have nb : b ∉ m ++ M := fun q => by
    rcases List.mem_append.mp q with q | q
    · rw [k b q] at h; cases h
    · exact n q
  exact stat_of (l b o nb h) nb r
theorem Loc.stat {M : List Addr} {H0 a b : AH} (l : Loc H0 a b) : Le (a.stat M) (b.stat M) := fun x o e => let ⟨h, n, r⟩ := of_stat e; stat_of (l.fact h r) n r

structure Ad where
  t : Addr
  d : Addr
  kd : Addr
  pool : Addr
  figs : Addr
  rows : Addr
  homes : Addr
def Ad.M (D : Ad) : List Addr := [D.t, D.kd, D.pool, D.figs, D.rows, D.homes]
/-- what is altered on the way -/
structure Mut (w : World) (D : Ad) (tn : Addr) (n : Int) (m : Nat) (rl hl : List AV) (H : AH) : Prop where
  ts : ∃ fs xc, TypesAt w H D.t D.d D.kd fs n m 9 ∧ lookF "none" fs = some (.ref tn) ∧ lookF "char" fs = some (.ref xc)
  pool : PoolOk H D.pool D.figs
  rows : H D.rows = some (.list rl)
  homes : H D.homes = some (.list hl)
  nd : D.M.Nodup
theorem TypesAt.keep {t d kd : Addr} {fs : List (Str × AV)} {m k : Nat} {l : List Addr} (T : TypesAt w H t d kd fs n m k) (le : LeB l H H') (h1 : t ∉ l) (h2 : kd ∉ l) (h3 : ∀ b ∈ l, ∀ xs, H b ≠ some (.tup xs)) : TypesAt w H' t d kd fs n m k :=
  ⟨le _ _ h1 T.self, T.cnt, T.kno, T.kn.mono (by obtain ⟨o, e⟩ := T.kn.dic; rw [le _ _ h2 e, e]) (fun b xs e => le _ _ (fun q => h3 b q xs e) e), T.len, T.no1, T.no2⟩
theorem PoolOk.keep {pool figs : Addr} {l : List Addr} (P : PoolOk H pool figs) (le : LeB l H H') (h1 : pool ∉ l) (h2 : figs ∉ l) : PoolOk H' pool figs :=
  let ⟨fl, i, mix, a, b, r⟩ := P.at_; ⟨fl, i, mix, le _ _ h1 a, le _ _ h2 b, r⟩
section
variable {D : Ad} {tn : Addr} {m : Nat} {rl hl : List AV}
theorem Mut.live (M : Mut w D tn n m rl hl H) : ∀ b ∈ D.M, H b ≠ none := by
  intro b hb q
  obtain ⟨fs, xc, T, _⟩ := M.ts
  obtain ⟨o, e⟩ := T.kn.dic
  obtain ⟨fl, i, mix, p1, p2, _⟩ := M.pool.at_
  simp only [Ad.M, List.mem_cons, List.not_mem_nil, or_false] at hb
  rcases hb with rfl | rfl | rfl | rfl | rfl | rfl
  · rw [T.self] at q; cases q
  · rw [e] at q; cases q
  · rw [p1] at q; cases q
  · rw [p2] at q; cases q
  · rw [M.rows] at q; cases q
  · rw [M.homes] at q; cases q
theorem Mut.kind (M : Mut w D tn n m rl hl H) : ∀ b ∈ D.M, (∀ o, H b ≠ some (.raw o)) ∧ (∀ o, H b ≠ some (.tup o)) := by
  intro b hb
  obtain ⟨fs, xc, T, _⟩ := M.ts
  obtain ⟨o, e⟩ := T.kn.dic
  obtain ⟨fl, i, mix, p1, p2, _⟩ := M.pool.at_
  simp only [Ad.M, List.mem_cons, List.not_mem_nil, or_false] at hb
  rcases hb with rfl | rfl | rfl | rfl | rfl | rfl
  · rw [T.self]; exact ⟨fun _ q => (by cases q), fun _ q => (by cases q)⟩
  · rw [e]; exact ⟨fun _ q => (by cases q), fun _ q => (by cases q)⟩
  · rw [p1]; exact ⟨fun _ q => (by cases q), fun _ q => (by cases q)⟩
  · rw [p2]; exact ⟨fun _ q => (by cases q), fun _ q => (by cases q)⟩
  · rw [M.rows]; exact ⟨fun _ q => (by cases q), fun _ q => (by cases q)⟩
  · rw [M.homes]; exact ⟨fun _ q => (by cases q), fun _ q => (by cases q)⟩
theorem Mut.kr (M : Mut w D tn n m rl hl H) (l : LeB D.M H H') : KR H H' := l.kr fun b hb o => (M.kind b hb).1 o
theorem Mut.fresh (M : Mut w D tn n m rl hl H) {x : Addr} (h : H x = none) : x ∉ D.M := fun q => M.live x q h
theorem Ad.sub (l : List Addr) (h : ∀ b ∈ l, b ∈ D.M) (k : LeB l H H') : LeB D.M H H' := k.more h
theorem Mut.loc {H0 : AH} (M : Mut w D tn n m rl hl H) (l : Loc H0 H H') : Mut w D tn n m rl hl H' := by
  obtain ⟨fs, xc, T, a, b⟩ := M.ts
  obtain ⟨o, e⟩ := T.kn.dic
  obtain ⟨fl, i, mix, p1, p2, p3⟩ := M.pool.at_
  exact ⟨⟨fs, xc, ⟨l.fact T.self (fun _ q => by cases q), T.cnt, T.kno, T.kn.mono (by rw [l.fact e (fun _ q => by cases q), e]) (fun b xs e => l.fact e (fun _ q => by cases q)), T.len, T.no1, T.no2⟩, a, b⟩,
    ⟨fl, i, mix, l.fact p1 (fun _ q => by cases q), l.fact p2 (fun _ q => by cases q), p3⟩, l.fact M.rows (fun _ q => by cases q), l.fact M.homes (fun _ q => by cases q), M.nd⟩
theorem Ad.nds (nd : D.M.Nodup) : D.t ∉ [D.pool] ∧ D.kd ∉ [D.pool] ∧ D.rows ∉ [D.pool] ∧ D.homes ∉ [D.pool] ∧ D.pool ∉ [D.t, D.kd] ∧ D.figs ∉ [D.t, D.kd] ∧ D.rows ∉ [D.t, D.kd] ∧ D.homes ∉ [D.t, D.kd] ∧ D.t ∉ [D.rows] ∧ D.kd ∉ [D.rows] ∧ D.pool ∉ [D.rows] ∧ D.figs ∉ [D.rows] ∧ D.homes ∉ [D.rows]
    ∧ D.t ∉ [D.homes] ∧ D.kd ∉ [D.homes] ∧ D.pool ∉ [D.homes] ∧ D.figs ∉ [D.homes] ∧ D.rows ∉ [D.homes] := by
  simp only [Ad.M, List.nodup_cons, List.mem_cons, List.not_mem_nil, or_false, not_or, not_false_eq_true, List.nodup_nil, and_true] at nd ⊢
  obtain ⟨⟨a1, a2, a3, a4, a5⟩, ⟨b1, b2, b3, b4⟩, ⟨c1, c2, c3⟩, ⟨d1, d2⟩, e1⟩ := nd
  exact ⟨a2, b1, Ne.symm c2, Ne.symm c3, ⟨Ne.symm a2, Ne.symm b1⟩, ⟨Ne.symm a3, Ne.symm b2⟩, ⟨Ne.symm a4, Ne.symm b3⟩, ⟨Ne.symm a5, Ne.symm b4⟩, a4, b3, c2, d1, Ne.symm e1, a5, b4, c3, d2, e1⟩
end
end Mine
namespace Mine
variable {w : World} {H H' G G' : AH} {C : Cx} {ρ : Rho} {W : List Sh} {ta : Option Nat → Addr} {num : Option Nat → Int} {rs : List Addr} {S S' : List Addr} {n : Int} {D : Ad} {tn : Addr} {m : Nat} {rl hl : List AV}

theorem Mut.keep {l : List Addr} (M : Mut w D tn n m rl hl H) (le : LeB l H H') (k : ∀ b ∈ l, b ∉ D.M ∧ ∀ xs, H b ≠ some (.tup xs)) : Mut w D tn n m rl hl H' := by
  have nn : ∀ b ∈ D.M, b ∉ l := fun b hb q => (k b q).1 hb
  obtain ⟨fs, xc, T, a, b⟩ := M.ts
  exact ⟨⟨fs, xc, T.keep le (nn _ (by simp [Ad.M])) (nn _ (by simp [Ad.M])) (fun b hb => (k b hb).2), a, b⟩, M.pool.keep le (nn _ (by simp [Ad.M])) (nn _ (by simp [Ad.M])), le _ _ (nn _ (by simp [Ad.M])) M.rows, le _ _ (nn _ (by simp [Ad.M])) M.homes, M.nd⟩
theorem Mut.pick (M : Mut w D tn n m rl hl H) (P : PoolOk H' D.pool D.figs) (le : LeB [D.pool] H H') : Mut w D tn n m rl hl H' := by
  obtain ⟨a1, a2, a3, a4, _⟩ := Ad.nds M.nd
  obtain ⟨fs, xc, T, a, b⟩ := M.ts
  exact ⟨⟨fs, xc, T.keep le a1 a2 (fun b hb => (M.kind b (by rw [List.mem_singleton.mp hb]; simp [Ad.M])).2), a, b⟩, P, le _ _ a3 M.rows, le _ _ a4 M.homes, M.nd⟩
theorem Mut.setRows (M : Mut w D tn n m rl hl H) {rl' : List AV} : Mut w D tn n m rl' hl (H.set D.rows (.list rl')) := by
  obtain ⟨_, _, _, _, _, _, _, _, a1, a2, a3, a4, a5, _⟩ := Ad.nds M.nd
  obtain ⟨fs, xc, T, a, b⟩ := M.ts
  have le : LeB [D.rows] H (H.set D.rows (.list rl')) := LeB.set (by simp)
  exact ⟨⟨fs, xc, T.keep le a1 a2 (fun b hb => (M.kind b (by rw [List.mem_singleton.mp hb]; simp [Ad.M])).2), a, b⟩, M.pool.keep le a3 a4, AH.set_self, le _ _ a5 M.homes, M.nd⟩
theorem Mut.setHomes (M : Mut w D tn n m rl hl H) {hl' : List AV} : Mut w D tn n m rl hl' (H.set D.homes (.list hl')) := by
  obtain ⟨_, _, _, _, _, _, _, _, _, _, _, _, _, a1, a2, a3, a4, a5⟩ := Ad.nds M.nd
  obtain ⟨fs, xc, T, a, b⟩ := M.ts
  have le : LeB [D.homes] H (H.set D.homes (.list hl')) := LeB.set (by simp)
  exact ⟨⟨fs, xc, T.keep le a1 a2 (fun b hb => (M.kind b (by rw [List.mem_singleton.mp hb]; simp [Ad.M])).2), a, b⟩, M.pool.keep le a3 a4, le _ _ a5 M.rows, AH.set_self, M.nd⟩

structure MadeW (w : World) (D : Ad) (tn : Addr) (n : Int) (m : Nat) (rl hl : List AV) (H : AH) (x p : Addr) (form : Str) (H' : AH) : Prop where
  new : H x = none
  newp : H p = none
  px : p ≠ x
  par : H' p = some (.list [])
  ty : TyAt x (n + 1) form .none 0 0 p H'
  mt : Mut w D tn (n + 1) (m + 1) rl hl H'
  le : LeB D.M H H'
theorem Mut.made {x p : Addr} {form : Str} {fs : List (Str × AV)} {xc : Addr} (M : Mut w D tn n m rl hl H) (hn : lookF "none" fs = some (.ref tn)) (hc : lookF "char" fs = some (.ref xc)) (y : MadeTy w H D.t D.d D.kd fs n m 9 x p form H') : MadeW w D tn n m rl hl H x p form H' := by
  obtain ⟨_, _, _, _, a1, a2, a3, a4, _⟩ := Ad.nds M.nd
  exact ⟨y.new, y.newp, y.px, y.par, y.ty, ⟨⟨_, xc, y.ts, by rw [lookF_ne (by decide)]; exact hn, by rw [lookF_ne (by decide)]; exact hc⟩, M.pool.keep y.le a1 a2, y.le _ _ a3 M.rows, y.le _ _ a4 M.homes, M.nd⟩, y.le.more (by simp [Ad.M])⟩
section
variable {x : Str} {xp ap pos : Pos} {e1 e2 e3 e4 : PySem.Expr}
theorem ev_mk3 {size : Int} {form : Str} (M : Mut w D tn n m rl hl H) (hm : m ≤ 100000)
    (O : EvP prg w (MK w.params) C ρ H (.Name x xp) (.ref D.t)) (X : EvLP prg w (MK w.params) C ρ H [e1, e2] [.str form, .int size]) (hr : 4 ≤ C.r)
    (h1 : methodCallForm ([e1, e2].length + 0) (backTo pos (starEach [e1, e2] C.env)) (backToKw pos (keywordEach [] C.env)) = true := by rfl) (h2 : (ap.endLine == pos.line) = true := by rfl)
    (hpl : ((backTo pos (starEach [e2] C.env)).any (·.1)) = false := by rfl) (hst : starEach [e1, e2] C.env = (false, eval e1 C.env) :: starEach [e2] C.env := by rfl) :
    EvG prg w (MK w.params) C ρ H (.Call (.Attribute (.Name x xp) "new" ap) [e1, e2] [] pos) (fun a H' => ∃ x p, a = .ref x ∧ MadeW w D tn n m rl hl H x p form H') := by
  obtain ⟨fs, xc, T, a, b⟩ := M.ts
  exact (ev_newm3 T hm (by decide) O X hr h1 h2 hpl hst).imp fun av H' q => let ⟨x, p, e, y⟩ := q; ⟨x, p, e, M.made a b y⟩
theorem ev_mk5 {size : Int} {form md lb : Str} (M : Mut w D tn n m rl hl H) (hm : m ≤ 100000)
    (O : EvP prg w (MK w.params) C ρ H (.Name x xp) (.ref D.t)) (X : EvLP prg w (MK w.params) C ρ H [e1, e2, e3, e4] [.str form, .int size, .str md, .str lb]) (hr : 4 ≤ C.r)
    (h1 : methodCallForm ([e1, e2, e3, e4].length + 0) (backTo pos (starEach [e1, e2, e3, e4] C.env)) (backToKw pos (keywordEach [] C.env)) = true := by rfl) (h2 : (ap.endLine == pos.line) = true := by rfl)
    (hpl : ((backTo pos (starEach [e2, e3, e4] C.env)).any (·.1)) = false := by rfl) (hst : starEach [e1, e2, e3, e4] C.env = (false, eval e1 C.env) :: starEach [e2, e3, e4] C.env := by rfl) :
    EvG prg w (MK w.params) C ρ H (.Call (.Attribute (.Name x xp) "new" ap) [e1, e2, e3, e4] [] pos) (fun a H' => ∃ x p, a = .ref x ∧ MadeW w D tn n m rl hl H x p form H') := by
  obtain ⟨fs, xc, T, a, b⟩ := M.ts
  exact (ev_newm5 T hm (by decide) O X hr h1 h2 hpl hst).imp fun av H' q => let ⟨x, p, e, y⟩ := q; ⟨x, p, e, M.made a b y⟩
theorem ev_pickw {b : Nat} (i : Nat) (nm : C.scope.names[i]? = some (("_law_pick" : Str), .globalImplicit)) (M : Mut w D tn n m rl hl H) (X : EvLP prg w (MK w.params) C ρ H [e1, e2] [.ref D.pool, .int b]) (hb : 0 < b) (hr : 2 ≤ C.r)
    (hpl : ((backTo pos (starEach [e2] C.env)).any (·.1)) = false := by rfl) (hst : starEach [e1, e2] C.env = (false, eval e1 C.env) :: starEach [e2] C.env := by rfl) :
    EvG prg w (MK w.params) C ρ H (.Call (.Name "_law_pick" xp) [e1, e2] [] pos) (fun r H' => ∃ v : Nat, r = .int v ∧ v < b ∧ Mut w D tn n m rl hl H' ∧ LeB D.M H H') :=
  (ev_pick i nm X hb M.pool hr hpl hst).imp fun r H' q => let ⟨v, e, hv, p, l⟩ := q; ⟨v, e, hv, M.pick p l, l.more (by simp [Ad.M])⟩
end
/-- rows[i][0] -/
theorem ev_rowsub {i : Nat} {s : Sh} {e1 e2 : PySem.Expr} {p1 p2 kp : Pos} {k : Nat} {n' : Int} (hr : H D.rows = some (.list (rs.map .ref))) (P : Part G W ta num rs S n') (le : Le G H) (hW : W[i]? = some s) (hl : W.length ≤ 40) (X : EvP prg w (MK w.params) C ρ H e1 (.ref D.rows)) (Y : EvP prg w (MK w.params) C ρ H e2 (.int i))
    (hq : ∀ o i, subscripted e2 false o i = operate [o, i] (getItem o i) := by intro _ _; rfl) : EvP prg w (MK w.params) C ρ H (.Subscript (.Subscript e1 e2 p1) (.Constant (.int 0) k kp) p2) (.ref (ta (some i))) := by
  have hi := get_lt hW
  obtain ⟨r, er⟩ : ∃ r, rs[i]? = some r := ⟨_, List.getElem?_eq_getElem (by rw [P.rlen]; exact hi)⟩
  obtain ⟨sh, h, _⟩ := P.row i s r hW er
  exact ev_row0 ⟨⟨rs, r, hr, er, le _ _ h, by rw [P.rlen]; exact hl⟩⟩ X Y hq
theorem TyAt.stat {x p : Addr} {len lev : Int} {form : Str} {base : AV} {L : List Addr} (y : TyAt x n form base len lev p H) (h : x ∉ L) : TyAt x n form base len lev p (H.stat L) := let ⟨d, fs, h1, r⟩ := y.at_; ⟨d, fs, stat_of h1 h (fun _ q => by cases q), r⟩
theorem TyAt.keep {x p : Addr} {len lev : Int} {form : Str} {base : AV} {L : List Addr} (y : TyAt x n form base len lev p H) (l : LeB L H H') (h : x ∉ L) : TyAt x n form base len lev p H' := let ⟨d, fs, h1, r⟩ := y.at_; ⟨d, fs, l _ _ h h1, r⟩
theorem TyAt.nt {x p : Addr} {len lev : Int} {form : Str} {base : AV} (y : TyAt x n form base len lev p H) : ∀ b ∈ [x], ∀ xs, H b ≠ some (.tup xs) := fun b hb xs q => by
  obtain ⟨d, fs, h1, _⟩ := y.at_; rw [List.mem_singleton.mp hb, h1] at q; cases q
section
variable {x p : Addr} {len lev : Int} {form : Str} {base v : AV} {o e : PySem.Expr} {tp pos : Pos} {R : AF → Rho → AH → Prop}
theorem ex_setbase (y : TyAt x n form base len lev p H) (O : EvP prg w (MK w.params) C ρ H o (.ref x)) (X : EvP prg w (MK w.params) C ρ H e v) (r : ∀ H', TyAt x n form v len lev p H' → LeB [x] H H' → R .next ρ H')
    (hsw : swapsWith e (some (.Attribute o "base" tp)) pos.line C.env = pure false := by rfl) : Ex1 prg w (MK w.params) C ρ H (.Assign [.Attribute o "base" tp] e pos) R := by
  obtain ⟨d, fs, h, h1, h2, h3, h4, h5, h6, h7⟩ := y.at_
  refine ex_setattr (a := x) (d := d) (fs := fs) (EvP.g (P := fun a h => a = v ∧ h = H) X ⟨rfl, rfl⟩) (fun a h' q => ?_) kz_ty_base (by omega) hsw
  obtain ⟨rfl, rfl⟩ := q
  exact ⟨O, h, r _ ⟨d, _, AH.set_self, by rw [lookF_ne (by decide)]; exact h1, by rw [lookF_ne (by decide)]; exact h2, lookF_self _ _ _, by rw [lookF_ne (by decide)]; exact h4, by rw [lookF_ne (by decide)]; exact h5, by rw [lookF_ne (by decide)]; exact h6, by rw [putF_len h3]; exact h7⟩ (LeB.set (by simp))⟩
theorem ex_setlen {z : Int} (y : TyAt x n form base len lev p H) (O : EvP prg w (MK w.params) C ρ H o (.ref x)) (X : EvP prg w (MK w.params) C ρ H e (.int z)) (r : ∀ H', TyAt x n form base z lev p H' → LeB [x] H H' → R .next ρ H')
    (hsw : swapsWith e (some (.Attribute o "length" tp)) pos.line C.env = pure false := by rfl) : Ex1 prg w (MK w.params) C ρ H (.Assign [.Attribute o "length" tp] e pos) R := by
  obtain ⟨d, fs, h, h1, h2, h3, h4, h5, h6, h7⟩ := y.at_
  refine ex_setattr (a := x) (d := d) (fs := fs) (EvP.g (P := fun a h => a = .int z ∧ h = H) X ⟨rfl, rfl⟩) (fun a h' q => ?_) kz_ty_length (by omega) hsw
  obtain ⟨rfl, rfl⟩ := q
  exact ⟨O, h, r _ ⟨d, _, AH.set_self, by rw [lookF_ne (by decide)]; exact h1, by rw [lookF_ne (by decide)]; exact h2, by rw [lookF_ne (by decide)]; exact h3, lookF_self _ _ _, by rw [lookF_ne (by decide)]; exact h5, by rw [lookF_ne (by decide)]; exact h6, by rw [putF_len h4]; exact h7⟩ (LeB.set (by simp))⟩
theorem ex_setlev {z : Int} (y : TyAt x n form base len lev p H) (O : EvP prg w (MK w.params) C ρ H o (.ref x)) (X : EvP prg w (MK w.params) C ρ H e (.int z)) (r : ∀ H', TyAt x n form base len z p H' → LeB [x] H H' → R .next ρ H')
    (hsw : swapsWith e (some (.Attribute o "level" tp)) pos.line C.env = pure false := by rfl) : Ex1 prg w (MK w.params) C ρ H (.Assign [.Attribute o "level" tp] e pos) R := by
  obtain ⟨d, fs, h, h1, h2, h3, h4, h5, h6, h7⟩ := y.at_
  refine ex_setattr (a := x) (d := d) (fs := fs) (EvP.g (P := fun a h => a = .int z ∧ h = H) X ⟨rfl, rfl⟩) (fun a h' q => ?_) kz_ty_level (by omega) hsw
  obtain ⟨rfl, rfl⟩ := q
  exact ⟨O, h, r _ ⟨d, _, AH.set_self, by rw [lookF_ne (by decide)]; exact h1, by rw [lookF_ne (by decide)]; exact h2, by rw [lookF_ne (by decide)]; exact h3, by rw [lookF_ne (by decide)]; exact h4, by rw [lookF_ne (by decide)]; exact h5, lookF_self _ _ _, by rw [putF_len h6]; exact h7⟩ (LeB.set (by simp))⟩
end
/-- (made, (..)) -/
theorem ev_rowtup {e1 : PySem.Expr} {es : List PySem.Expr} {avs : List AV} {t : AV} {c1 c2 : Nat} {q1 q2 : Pos} (X1 : EvP prg w (MK w.params) C ρ H e1 t) (Es : EvLP prg w (MK w.params) C ρ H es avs) (hz : avs.length ≤ 1000)
    (h1 : starEach [e1, .Tuple es c1 q1] C.env = (false, eval e1 C.env) :: starEach [.Tuple es c1 q1] C.env := by rfl) :
    EvG prg w (MK w.params) C ρ H (.Tuple [e1, .Tuple es c1 q1] c2 q2) (fun av H2 => ∃ sh r0, av = .ref r0 ∧ H sh = none ∧ H r0 = none ∧ sh ≠ r0 ∧ H2 = (H.set sh (.tup avs)).set r0 (.tup [t, .ref sh])) := by
  refine ev_tup (P := fun l h => ∃ sh, l = [t, .ref sh] ∧ H sh = none ∧ h = H.set sh (.tup avs)) (evl_consP X1 (evl_cons (P1 := fun a h => ∃ sh, a = .ref sh ∧ H sh = none ∧ h = H.set sh (.tup avs)) (ev_tup (P := fun l h => l = avs ∧ h = H) (Es.l ⟨rfl, rfl⟩) fun l h1 t p hn => ?_) (fun a h p => evl_nil ?_) rfl) h1) fun l h a p hn => ?_
  · obtain ⟨rfl, rfl⟩ := p; exact ⟨by omega, t, rfl, hn, rfl⟩
  · obtain ⟨sh, rfl, h1, h2⟩ := p; exact ⟨sh, rfl, h1, h2⟩
  · obtain ⟨sh, rfl, h1, rfl⟩ := p
    have ne : sh ≠ a := by rintro rfl; rw [AH.set_self] at hn; cases hn
    exact ⟨by show 2 ≤ _; decide, sh, a, rfl, h1, by rwa [AH.set_ne ne.symm] at hn, ne, rfl⟩
theorem ex_addrow {e1 : PySem.Expr} {es : List PySem.Expr} {avs : List AV} {t : AV} {c1 c2 : Nat} {q1 q2 xp ap pos pos' : Pos} {x : Str} {R : AF → Rho → AH → Prop} (M : Mut w D tn n m rl hl H) (O : ∀ H, EvP prg w (MK w.params) C ρ H (.Name x xp) (.ref D.rows)) (X1 : EvP prg w (MK w.params) C ρ H e1 t) (Es : EvLP prg w (MK w.params) C ρ H es avs) (hz : avs.length ≤ 1000) (hz2 : rl.length ≤ 1000)
    (r : ∀ sh r0 H', Mut w D tn n m (rl ++ [.ref r0]) hl H' → LeB D.M H H' → H' sh = some (.tup avs) → H' r0 = some (.tup [t, .ref sh]) → sh ∉ D.M → r0 ∉ D.M → R .next ρ H')
    (h1 : starEach [e1, .Tuple es c1 q1] C.env = (false, eval e1 C.env) :: starEach [.Tuple es c1 q1] C.env := by rfl)
    (hst : starEach [.Tuple [e1, .Tuple es c1 q1] c2 q2] C.env = [(false, eval (.Tuple [e1, .Tuple es c1 q1] c2 q2) C.env)] := by rfl) (h3 : methodCallForm 1 (backTo pos (starEach [.Tuple [e1, .Tuple es c1 q1] c2 q2] C.env)) (backToKw pos (keywordEach [] C.env)) = true := by rfl) (h2 : (ap.endLine == pos.line) = true := by rfl) :
    Ex1 prg w (MK w.params) C ρ H (.Expr (.Call (.Attribute (.Name x xp) "append" ap) [.Tuple [e1, .Tuple es c1 q1] c2 q2] [] pos) pos') R := by
  refine ex_append (O H) M.rows (ev_rowtup X1 Es hz h1) (fun av H1 q => ?_) hst h3 h2
  obtain ⟨sh, r0, rfl, a1, a2, a3, rfl⟩ := q
  have b1 := M.fresh a1
  have b2 := M.fresh a2
  have k1 : LeB [] H ((H.set sh (.tup avs)).set r0 (.tup [t, .ref sh])) := (LeB.new a1).trans (LeB.new (by rw [AH.set_ne a3.symm]; exact a2))
  have M1 : Mut w D tn n m rl hl ((H.set sh (.tup avs)).set r0 (.tup [t, .ref sh])) := M.keep k1 (fun b hb => by cases hb)
  refine ⟨rl, M1.rows, by omega, r sh r0 _ M1.setRows ((k1.more (by simp)).trans (LeB.set (by simp [Ad.M]))) ?_ ?_ b1 b2⟩
  · rw [AH.set_ne (by rintro rfl; exact b1 (by simp [Ad.M])), AH.set_ne a3]; exact AH.set_self
  · rw [AH.set_ne (by rintro rfl; exact b2 (by simp [Ad.M]))]; exact AH.set_self
end Mine
namespace Mine
variable {w : World} {H H' G G' : AH} {C : Cx} {ρ : Rho} {W : List Sh} {ta : Option Nat → Addr} {num : Option Nat → Int} {rs : List Addr} {S S' : List Addr} {n : Int} {D : Ad} {tn : Addr} {m : Nat} {rl hl : List AV} {hs : List Nat} {K : Frag} {prog : Program}

theorem EvG.pl {e : PySem.Expr} {av : AV} (x : EvG prog w K C ρ H e (fun a h => a = av ∧ Le H h)) : EvP prog w K C ρ H e av :=
  fun s Q E S k => x s Q E S fun a H' v h' tk q o S' => by obtain ⟨rfl, l⟩ := q; exact k v h' tk o (S'.less S.sep l fun _ _ q => q)
theorem LeB.back {l : List Addr} {x : Addr} (k : LeB l H H') (n : x ∉ l) (h : H' x = none) : H x = none := by
  cases e : H x with
  | none => rfl
  | some o => rw [k x o n e] at h; cases h
theorem LeB.sle {l : List Addr} (k : LeB l H H') : Le (H.stat l) H' := k.stat.trans stat_le

structure WI (w : World) (D : Ad) (W : List Sh) (hs : List Nat) (H : AH) : Prop where
  at_ : ∃ ta num rs S n m, Mut w D (ta none) n m (rs.map .ref) (hs.map fun h : Nat => .int h) H ∧ Part (H.stat D.M) W ta num rs S n ∧ m ≤ W.length + 1
  hm : ∀ h ∈ hs, ∃ b, W[h]? = some (.rcd b)
theorem WI.loc {H0 : AH} (I : WI w D W hs H) (l : Loc H0 H H') : WI w D W hs H' :=
  let ⟨ta, num, rs, S, n, m, a, b, c⟩ := I.at_; ⟨⟨ta, num, rs, S, n, m, a.loc l, b.mono l.stat, c⟩, I.hm⟩
theorem WI.next {ta : Option Nat → Addr} (M : Mut w D (ta none) n m (rs.map .ref) (hs.map fun h : Nat => .int h) H') (P : Part (H.stat D.M) W ta num rs S n) (hm : m ≤ W.length + 1) (l : LeB D.M H H') (hh : ∀ h ∈ hs, ∃ b, W[h]? = some (.rcd b)) : WI w D W hs H' :=
  ⟨⟨ta, num, rs, S, n, m, M, P.mono l.stat, hm⟩, hh⟩
theorem Part.add {x p sh r0 : Addr} {s : Sh} {lev : Int} (P : Part (H.stat D.M) W ta num rs S n) (le : LeB D.M H H') (hx : x ∉ D.M) (ty : TyAt x (n + 1) (formOf s) (baseOf ta s) (lenOf s) lev p H') (np : ∀ a b, s ≠ .proc a b)
    (h2 : H' r0 = some (.tup [.ref x, .ref sh])) (n2 : r0 ∉ D.M) (so : ShOk (H'.stat D.M) sh s) (hw : ShWf W W.length s) (nc : s ≠ .char) (hl : 6 ≤ W.length) :
    Part (H'.stat D.M) (W ++ [s]) (ups ta W.length x) (ups num W.length (n + 1)) (rs ++ [r0]) S (n + 1) :=
  (P.mono le.stat).snoc hw (.inl nc) (.inl (by omega)) ⟨lev, p, ty.stat hx, fun a b e => absurd e (np a b)⟩ ⟨sh, stat_of h2 n2 (fun _ q => by cases q), by cases s <;> first | exact so | exact absurd rfl (np _ _)⟩
theorem WI.add {x p sh r0 : Addr} {s : Sh} {lev : Int} {hs' : List Nat} (P : Part (H.stat D.M) W ta num rs S n) (le : LeB D.M H H') (hx : x ∉ D.M) (ty : TyAt x (n + 1) (formOf s) (baseOf ta s) (lenOf s) lev p H') (np : ∀ a b, s ≠ .proc a b)
    (h2 : H' r0 = some (.tup [.ref x, .ref sh])) (n2 : r0 ∉ D.M) (so : ShOk (H'.stat D.M) sh s) (hw : ShWf W W.length s) (nc : s ≠ .char) (hl : 6 ≤ W.length) (hm : m ≤ W.length + 1)
    (M' : Mut w D (ta none) (n + 1) (m + 1) (rs.map .ref ++ [.ref r0]) (hs'.map fun h : Nat => .int h) H') (hh : ∀ h ∈ hs', ∃ b, (W ++ [s])[h]? = some (.rcd b)) : WI w D (W ++ [s]) hs' H' := by
  refine ⟨⟨ups ta W.length x, ups num W.length (n + 1), rs ++ [r0], S, n + 1, m + 1, ?_, P.add le hx ty np h2 n2 so hw nc hl, by simp; omega⟩, hh⟩
  rw [List.map_append]
  exact M'
theorem rcd_mono {s : Sh} {h : Nat} (e : ∃ b, W[h]? = some (.rcd b)) : ∃ b, (W ++ [s])[h]? = some (.rcd b) := let ⟨b, e⟩ := e; ⟨b, by rw [List.getElem?_append_left (get_lt e)]; exact e⟩
theorem strlen : ∀ k : Nat, k < 45 → (Str.ofString (toString (k : Int))).length + 1 ≤ 16777216 := by decide +kernel

theorem strlog : ∀ k : Nat, k < 45 → (k : Int).natAbs.log2 < 1920 := by decide +kernel
/-- what is kept from the static part, seen from a later heap -/
theorem LeB.newx {l : List Addr} {x : Addr} {H1 H2 : AH} (k1 : LeB l H H1) (h : H1 x = none) (k2 : LeB (x :: l) H1 H2) : LeB l H H2 := k1.trans (LeB.newer h k2)

def Regs (D : Ad) (r : Rho) : Prop := r 0 = some (.ref D.pool) ∧ r 1 = some (.ref D.t) ∧ r 2 = some (.ref D.rows) ∧ r 3 = some (.ref D.homes)

/-- c + _law_pick(pool, b) -/
theorem ev_addpick {bp pos pos' : Pos} {l e1 e2 : PySem.Expr} {c b : Nat} (i : Nat) (X : EvP prg w (MK w.params) C ρ H l (.int c)) (nm : C.scope.names[i]? = some (("_law_pick" : Str), .globalImplicit)) (M : Mut w D tn n m rl hl H) (Y : EvLP prg w (MK w.params) C ρ H [e1, e2] [.ref D.pool, .int b]) (hb : 0 < b) (hr : 2 ≤ C.r) (hz : c + b < 1000000)
    (hpl : ((backTo pos (starEach [e2] C.env)).any (·.1)) = false := by rfl) (hst : starEach [e1, e2] C.env = (false, eval e1 C.env) :: starEach [e2] C.env := by rfl) :
    EvG prg w (MK w.params) C ρ H (.BinOp l .Add (.Call (.Name "_law_pick" bp) [e1, e2] [] pos) pos') (fun a H' => ∃ j : Nat, a = .int j ∧ j < 1000000 ∧ (c ≤ j ∧ j < c + b ∧ Mut w D tn n m rl hl H' ∧ LeB D.M H H')) := by
  refine ev_binG (P1 := fun a h => a = .int c ∧ h = H) (X.g ⟨rfl, rfl⟩) fun a H1 p => ?_
  obtain ⟨rfl, rfl⟩ := p
  refine (ev_pickw i nm M Y hb hr hpl hst).imp fun r H' p => ?_
  obtain ⟨v, rfl, hv, M1, l1⟩ := p
  exact ⟨_, rfl, c + v, congrArg AV.int (Int.natCast_add c v).symm, by omega, by omega, by omega, M1, l1⟩

/-- len(rows) -/
theorem ev_lenw {xp pos : Pos} {e : PySem.Expr} (i : Nat) (nm : C.scope.names[i]? = some (("len" : Str), NameKind.globalImplicit)) (X : EvP prg w (MK w.params) C ρ H e (.ref D.rows)) (hr : H D.rows = some (.list (rs.map .ref))) (hrl : rs.length = W.length) (hl : W.length ≤ 40)
    (hst : starEach [e] C.env = [(false, eval e C.env)] := by rfl) : EvP prg w (MK w.params) C ρ H (.Call (.Name "len" xp) [e] [] pos) (.int W.length) := by
  have := ev_len (pos := pos) (xp := xp) i nm ⟨b_len, PyProof.Rows.Boot.len⟩ X hr (by rw [List.length_map]; omega) hst
  rw [List.length_map, hrl] at this
  exact this

section
variable {A : Around} {h₀ : Heap} {L : Addr} {r : Nat} {R : AF → Rho → AH → Prop}
theorem world1 (hr : 6 ≤ r) (rg : Regs D ρ) (I : WI w D W [] H) (hW : W.length = 6)
    (k : ∀ ρ H W hs, Regs D ρ → WI w D W hs H → 7 ≤ W.length → W.length ≤ 10 → hs.length + 6 = W.length → Exs prg w (MK w.params) (flaw_world.cx A h₀ L r) ρ H (flaw_world.body.drop 4) R) :
    Exs prg w (MK w.params) (flaw_world.cx A h₀ L r) ρ H (flaw_world.body.drop 3) R := by
  obtain ⟨ta, num, rs, S, n, m, M, P, hm⟩ := I.at_
  show Exs _ _ _ _ _ _ (_ :: _) _
  refine exs_cons (ex_for (G := fun j Pi H0 => (1 ≤ j ∧ j < 1 + 4 ∧ Mut w D (ta none) n m (rs.map .ref) [] H0 ∧ LeB D.M H H0) ∧ Pi = fun i a => a = .int i) 4 rfl
    (it_range 16 rfl b_range (ev_addpick (c := 1) (b := 4) 17 ev_int rfl M (.cons (ev_local 0 rfl rg.1) rfl (.cons ev_int rfl .nil)) (by omega) (by show 2 ≤ r; omega) (by omega))) ?_)
  rintro j Pi H0 ⟨⟨hj1, hj4, M0, l0⟩, rfl⟩
  have I0 : WI w D W [] H0 := WI.next (ta := ta) (hs := []) M0 P hm l0 (fun h q => by cases q)
  clear M P hm M0 l0 I ta num rs S n m
  refine ⟨fun k r a => Regs D r ∧ ∃ W hs, WI w D W hs a ∧ W.length = 6 + k ∧ hs.length = k, ⟨rg, W, [], I0, hW, rfl⟩, ?_, ?_, ?_⟩
  · rintro i r a b lo ⟨q1, W, hs, I, q2⟩
    exact ⟨q1, W, hs, I.loc lo, q2⟩
  · rintro i ρ a av hi rfl ⟨rg, W, hs, I, hl, hlh⟩
    obtain ⟨ta, num, rs, S, n, m, M, P, hm⟩ := I.at_
    have hhm := I.hm
    have hrl : rs.length = W.length := P.rlen
    show Exs _ _ _ _ _ _ (_ :: _) _
    refine exs_cons (ex_assign (P := fun c H2 => ∃ v : Nat, c = .int ((v : Int) - 1) ∧ v < i + 1 ∧ Mut w D (ta none) n m (rs.map .ref) (hs.map fun h : Nat => .int h) H2 ∧ LeB D.M a H2) 5 rfl (ev_binG (ev_pickw (b := i + 1) 17 rfl M (.cons (ev_local 0 rfl rg.1) rfl (.cons (ev_bin (ev_local 4 rfl rfl) ev_int rfl) rfl .nil)) (by omega) (by show 2 ≤ r; omega)) (fun av H1 p => ?_)) fun av H1 p => ?_)
    · obtain ⟨v, rfl, hv, M1, l1⟩ := p
      exact ev_int.g ⟨_, rfl, v, rfl, hv, M1, l1⟩
    obtain ⟨v, rfl, hv, M1, l1⟩ := p
    refine exs_cons (ex_assign 6 rfl (ev_mk5 (form := "record") (size := 4) (md := "M") (lb := ("R" : Str) ++ Str.ofString (toString (i : Int))) M1 (by omega) (ev_local 1 rfl rg.2.1) (.cons ev_str rfl (.cons ev_int rfl (.cons ev_str rfl (.cons (ev_bin ev_str (ev_strc 18 rfl b_str (ev_local 4 rfl rfl) ?_).p ?_) rfl .nil)))) (by show 4 ≤ r; omega)) fun av H2 p => ?_)
    · exact strlog i (by omega)
    · exact if_pos (by have := strlen i (by omega); have h1 : (("R" : Str)).length = 1 := by decide
                       omega)
    obtain ⟨x, p, rfl, N⟩ := p
    have xM : x ∉ D.M := M1.fresh N.new
    have l02 : LeB D.M a H2 := l1.trans N.le
    obtain ⟨oa, hoa⟩ : ∃ oa : Option Nat, (v = 0 ∧ oa = none) ∨ (1 ≤ v ∧ ∃ home b, hs[v - 1]? = some home ∧ oa = some home ∧ W[home]? = some (.rcd b)) := by
      cases v with
      | zero => exact ⟨none, .inl ⟨rfl, rfl⟩⟩
      | succ v =>
        obtain ⟨home, hh⟩ : ∃ home, hs[v]? = some home := ⟨_, List.getElem?_eq_getElem (by omega)⟩
        obtain ⟨b, hb⟩ := hhm home (List.mem_of_getElem? hh)
        exact ⟨some home, .inr ⟨by omega, home, b, hh, rfl, hb⟩⟩
    have hget : ∀ home, 1 ≤ v → hs[v - 1]? = some home → (hs.map fun h : Nat => AV.int h)[((v : Int) - 1).toNat]? = some (.int home) := fun home h1 e => by
      rw [show ((v : Int) - 1).toNat = v - 1 by omega, List.getElem?_map, e]; rfl
    refine exs_cons (ex_ifJ (ts_cmp (ev_local 5 rfl rfl) ev_int rfl) (fun r' h => (Regs D r' ∧ r' 4 = some (.int i) ∧ r' 5 = some (.int ((v : Int) - 1)) ∧ r' 6 = some (.ref x)) ∧ (∃ lev, TyAt x (n + 1) "record" (baseOf ta (.rcd oa)) 0 lev p h) ∧ LeB [x] H2 h) (fun e => ?_) (fun e => ?_) ?_)
    · have e : (0 : Int) ≤ (v : Int) - 1 := of_decide_eq_true e
      rcases hoa with ⟨rfl, _⟩ | ⟨hv1, home, b, hh, rfl, hb⟩
      · omega
      have hlt := get_lt hb
      refine exs_cons (ex_setbase N.ty (ev_local 6 rfl rfl) (ev_rowsub (P := P) N.mt.rows l02.sle hb (by omega) (ev_local 2 rfl rg.2.2.1) (ev_sub (ev_local 3 rfl rg.2.2.2) (ev_local 5 rfl rfl) (.inl N.mt.homes) (hget home hv1 hh) (by omega) (by omega))) fun H3 ty3 l3 => ?_)
      have le3 : Le (a.stat D.M) H3 := (l1.trans (LeB.newer N.new ((N.le.more fun b hb => List.mem_cons_of_mem _ hb).trans (l3.more (by simp))))).sle
      obtain ⟨lev, par, tyb, _⟩ := (P.ty home _ hb).mono le3
      obtain ⟨d, fs, g1, _, _, _, _, _, g7, _⟩ := tyb.at_
      refine exs_cons (ex_setlev ty3 (ev_local 6 rfl rfl) (ev_bin (ev_attr2 (ev_base (ev_local 6 rfl rfl) ty3.ty) g1 g7 ka_ty_level) ev_int rfl) fun H4 ty4 l4 => exs_nil ⟨rfl, ⟨rg, rfl, rfl, rfl⟩, ⟨_, ty4⟩, l3.trans l4⟩)
    · have e : ¬ (0 : Int) ≤ (v : Int) - 1 := of_decide_eq_false e
      rcases hoa with ⟨rfl, rfl⟩ | ⟨hv1, _⟩
      · exact exs_nil ⟨rfl, ⟨rg, rfl, rfl, rfl⟩, ⟨_, N.ty⟩, LeB.refl⟩
      · omega
    rintro ρ h ⟨⟨rg, r4, r5, r6⟩, ⟨lev, ty⟩, l3⟩
    have M3 := N.mt.keep l3 (fun b hb => by rw [List.mem_singleton.mp hb]; exact ⟨xM, fun xs => N.ty.nt x (by simp) xs⟩)
    refine exs_cons (ex_append (P := fun av h' => av = .int (W.length : Int) ∧ h' = h) (ev_local 3 rfl rg.2.2.2) M3.homes (EvP.g (ev_lenw 19 rfl (ev_local 2 rfl rg.2.2.1) M3.rows hrl (by omega)) ⟨rfl, rfl⟩) fun av h' q => ?_)
    obtain ⟨rfl, rfl⟩ := q
    refine ⟨_, M3.homes, by rw [List.length_map]; omega, ?_⟩
    have M4 : Mut w D (ta none) (n + 1) (m + 1) (rs.map .ref) ((hs ++ [W.length]).map fun h : Nat => .int h) (h'.set D.homes (.list ((hs.map fun h : Nat => AV.int h) ++ [.int W.length]))) := by
      have := M3.setHomes (hl' := (hs ++ [W.length]).map fun h : Nat => AV.int h)
      rw [List.map_append] at this ⊢
      exact this
    have l4 : LeB D.M h' (h'.set D.homes (.list ((hs.map fun h : Nat => AV.int h) ++ [.int W.length]))) := LeB.set (by simp [Ad.M])
    generalize (h'.set D.homes (.list ((hs.map fun h : Nat => AV.int h) ++ [.int W.length]))) = H4 at M4 l4
    refine exs_cons (ex_addrow (avs := [.str "rec", .int (idxI oa)]) M4 (fun H => ev_local 2 rfl rg.2.2.1) (ev_local 6 rfl r6) (.cons ev_str rfl (.cons (ev_ife (ts_cmp (ev_local 5 rfl r5) ev_int rfl) (fun e => ?_) (fun e => ?_)) rfl .nil)) (by show 2 ≤ 1000; decide) (by rw [List.length_map]; omega) fun sh r0 H5 M5 l5 e1 e2 n1 n2 => ?_)
    · have e : (0 : Int) ≤ (v : Int) - 1 := of_decide_eq_true e
      rcases hoa with ⟨rfl, _⟩ | ⟨hv1, home, b, hh, rfl, hb⟩
      · omega
      refine ev_sub (ev_local 3 rfl rg.2.2.2) (ev_local 5 rfl r5) (.inl M4.homes) ?_ (by omega) (by omega)
      rw [List.map_append, List.getElem?_append_left (by rw [List.length_map]; omega)]
      exact hget home hv1 hh
    · have e : ¬ (0 : Int) ≤ (v : Int) - 1 := of_decide_eq_false e
      rcases hoa with ⟨rfl, rfl⟩ | ⟨hv1, _⟩
      · exact ev_neg ev_int
      · omega
    have l25 : LeB (x :: D.M) H2 H5 := (l3.more (by simp)).trans ((l4.trans l5).more fun b hb => List.mem_cons_of_mem _ hb)
    have l05 : LeB D.M a H5 := l1.trans (LeB.newer N.new ((N.le.more fun b hb => List.mem_cons_of_mem _ hb).trans l25))
    have hhs : ∀ h ∈ hs ++ [W.length], ∃ b, (W ++ [Sh.rcd oa])[h]? = some (.rcd b) := fun h hh => by
      rcases List.mem_append.mp hh with hh | hh
      · exact rcd_mono (hhm h hh)
      · rw [List.mem_singleton.mp hh]; exact ⟨oa, by simp⟩
    refine exs_nil ⟨⟨rg, W ++ [.rcd oa], hs ++ [W.length], WI.add (s := .rcd oa) P l05 xM (ty.keep (l4.trans l5) xM) (fun _ _ q => by cases q) e2 n2 (stat_of e1 n1 (fun _ q => by cases q)) ?_ (fun q => by cases q) (by omega) hm M5 hhs, by simp; omega, by simp; omega⟩, M.kr l05⟩
    rcases hoa with ⟨_, rfl⟩ | ⟨_, home, b, hh, rfl, hb⟩
    · trivial
    · exact ⟨get_lt hb, b, hb⟩
  · rintro r a ⟨rg, W, hs, I, hl, hlh⟩
    exact k r a W hs rg I (by omega) (by omega) (by omega)
end
end Mine
namespace Mine
variable {w : World} {H H' G G' : AH} {C : Cx} {ρ : Rho} {W : List Sh} {ta : Option Nat → Addr} {num : Option Nat → Int} {rs : List Addr} {S S' : List Addr} {n : Int} {D : Ad} {tn : Addr} {m : Nat} {rl hl : List AV} {hs : List Nat}

section
variable {A : Around} {h₀ : Heap} {L : Addr} {r : Nat} {R : AF → Rho → AH → Prop}
theorem world2 (hr : 6 ≤ r) (rg : Regs D ρ) (I : WI w D W hs H) (hW : 7 ≤ W.length) (hW2 : W.length ≤ 10) (hhl : hs.length + 6 = W.length)
    (k : ∀ ρ H W, Regs D ρ → WI w D W hs H → 7 ≤ W.length → W.length ≤ 14 → Exs prg w (MK w.params) (flaw_world.cx A h₀ L r) ρ H (flaw_world.body.drop 5) R) :
    Exs prg w (MK w.params) (flaw_world.cx A h₀ L r) ρ H (flaw_world.body.drop 4) R := by
  obtain ⟨ta, num, rs, S, n, m, M, P, hm⟩ := id I.at_
  show Exs _ _ _ _ _ _ (_ :: _) _
  refine exs_cons (ex_for (G := fun j Pi H0 => ∃ xs : List AV, (xs = (hs.map fun h : Nat => AV.int h) ∧ H0 = H) ∧ j = xs.length ∧ Pi = fun i a => xs[i]? = some a) 7 rfl (it_list (P := fun xs H0 => xs = (hs.map fun h : Nat => AV.int h) ∧ H0 = H) ?_) ?_)
  · exact fun s Q E Sx => ((ev_listc 20 rfl b_list (ev_local 3 rfl rg.2.2.2) M.homes (by rw [List.length_map]; omega)).imp fun a H1 ⟨b, h1, h2, h3⟩ => ⟨b, _, _, h1, h2, h3, Sx.sep, rfl, rfl⟩) s Q E Sx
  rintro j Pi H0 ⟨xs, ⟨rfl, rfl⟩, rfl, rfl⟩
  clear M P hm ta num rs S n m
  refine ⟨fun k r a => Regs D r ∧ ∃ W', WI w D W' hs a ∧ W'.length = W.length + k, ⟨rg, W, I, rfl⟩, ?_, ?_, ?_⟩
  · rintro i r a b lo ⟨q1, W, I, q2⟩
    exact ⟨q1, W, I.loc lo, q2⟩
  · rintro i ρ a av hi hav ⟨rg, W', I, hl⟩
    rw [List.length_map] at hi
    obtain ⟨home, hh, rfl⟩ : ∃ home : Nat, hs[i]? = some home ∧ av = .int home := by
      rw [List.getElem?_map] at hav
      cases q : hs[i]? with
      | none => rw [q] at hav; cases hav
      | some h => rw [q] at hav; cases hav; exact ⟨h, rfl, rfl⟩
    obtain ⟨ta, num, rs, S, n, m, M, P, hm⟩ := I.at_
    have hhm := I.hm
    obtain ⟨b, hb⟩ := hhm home (List.mem_of_getElem? hh)
    have hlt := get_lt hb
    have hrl : rs.length = W'.length := P.rlen
    show Exs _ _ _ _ _ _ (_ :: _) _
    refine exs_cons (ex_assign 6 rfl (ev_mk5 (form := "pointer") (size := 4) (md := "M") (lb := ("P" : Str) ++ Str.ofString (toString (home : Int))) M (by omega) (ev_local 1 rfl rg.2.1) (.cons ev_str rfl (.cons ev_int rfl (.cons ev_str rfl (.cons (ev_bin ev_str (ev_strc 18 rfl b_str (ev_local 7 rfl rfl) (strlog home (by omega))).p (if_pos (by
      have := strlen home (by omega); have h1 : (("P" : Str)).length = 1 := by decide
      omega))) rfl .nil)))) (by show 4 ≤ r; omega)) fun av H2 p => ?_)
    obtain ⟨x, p, rfl, N⟩ := p
    have xM : x ∉ D.M := M.fresh N.new
    refine exs_cons (ex_setbase N.ty (ev_local 6 rfl rfl) (ev_rowsub (P := P) N.mt.rows N.le.sle hb (by omega) (ev_local 2 rfl rg.2.2.1) (ev_local 7 rfl rfl)) fun H3 ty l3 => ?_)
    have M3 := N.mt.keep l3 (fun b hb => by rw [List.mem_singleton.mp hb]; exact ⟨xM, fun xs => N.ty.nt x (by simp) xs⟩)
    refine exs_cons (ex_addrow (avs := [.str "ptr", .int home]) M3 (fun H => ev_local 2 rfl rg.2.2.1) (ev_local 6 rfl rfl) (.cons ev_str rfl (.cons (ev_local 7 rfl rfl) rfl .nil)) (by show 2 ≤ 1000; decide) (by rw [List.length_map]; omega) fun sh r0 H5 M5 l5 e1 e2 n1 n2 => ?_)
    have l25 : LeB (x :: D.M) H2 H5 := (l3.more (by simp)).trans (l5.more fun b hb => List.mem_cons_of_mem _ hb)
    have l05 : LeB D.M a H5 := LeB.newer N.new ((N.le.more fun b hb => List.mem_cons_of_mem _ hb).trans l25)
    refine exs_nil ⟨⟨rg, W' ++ [.ptr home], WI.add (s := .ptr home) P l05 xM (ty.keep l5 xM) (fun _ _ q => by cases q) e2 n2 (stat_of e1 n1 (fun _ q => by cases q)) ⟨hlt, b, hb⟩ (fun q => by cases q) (by omega) hm M5 (fun h hh => rcd_mono (hhm h hh)), by simp; omega⟩, M.kr l05⟩
  · rintro r a ⟨rg, W', I, hl⟩
    rw [List.length_map] at hl
    exact k r a W' rg I (by omega) (by omega)
end

/-- [..][_law_pick(pool, b)] -/
theorem ev_choose {bp pos lp sp : Pos} {es : List PySem.Expr} {e1 e2 : PySem.Expr} {xs : List AV} {b : Nat} (i : Nat) (nm : C.scope.names[i]? = some (("_law_pick" : Str), .globalImplicit)) (M : Mut w D tn n m rl hl H) (Es : EvLP prg w (MK w.params) C ρ H es xs) (Y : ∀ H, EvLP prg w (MK w.params) C ρ H [e1, e2] [.ref D.pool, .int b]) (hx : xs.length = b) (hb : 0 < b) (hb2 : b < 1000) (hr : 2 ≤ C.r)
    (hpl : ((backTo pos (starEach [e2] C.env)).any (·.1)) = false := by rfl) (hst : starEach [e1, e2] C.env = (false, eval e1 C.env) :: starEach [e2] C.env := by rfl) :
    EvG prg w (MK w.params) C ρ H (.Subscript (.List es lp) (.Call (.Name "_law_pick" bp) [e1, e2] [] pos) sp) (fun a H' => a ∈ xs ∧ Mut w D tn n m rl hl H' ∧ LeB D.M H H') := by
  refine ev_subG (P1 := fun a h => ∃ l, a = .ref l ∧ H l = none ∧ h = H.set l (.list xs)) (ev_list (P := fun l h => l = xs ∧ h = H) (Es.l ⟨rfl, rfl⟩) fun l h1 t p hn => ?_) fun av H1 p => ?_
  · obtain ⟨rfl, rfl⟩ := p; exact ⟨by omega, t, rfl, hn, rfl⟩
  obtain ⟨l, rfl, hn, rfl⟩ := p
  have l1 : LeB [] H (H.set l (.list xs)) := LeB.new hn
  have nl : l ∉ D.M := M.fresh hn
  have M1 := M.keep l1 (fun b hb => by cases hb)
  refine ⟨l, rfl, (ev_pickw i nm M1 (Y _) hb hr hpl hst).imp fun r H' q => ?_⟩
  obtain ⟨v, rfl, hv, M2, l2⟩ := q
  obtain ⟨z, hz⟩ : ∃ z, xs[v]? = some z := ⟨_, List.getElem?_eq_getElem (by omega)⟩
  exact ⟨v, xs, z, rfl, .inl (l2 l _ nl AH.set_self), by omega, by omega, by rw [Int.toNat_natCast]; exact hz, List.mem_of_getElem? hz, M2, (l1.more (by simp)).trans l2⟩

section
variable {A : Around} {h₀ : Heap} {L : Addr} {r : Nat} {R : AF → Rho → AH → Prop}
theorem world3 (hr : 6 ≤ r) (rg : Regs D ρ) (I : WI w D W hs H) (hW : 7 ≤ W.length) (hW2 : W.length ≤ 14) (hh0 : 1 ≤ hs.length) (hh1 : hs.length ≤ 4)
    (k : ∀ ρ H W, Regs D ρ → WI w D W hs H → 7 ≤ W.length → W.length ≤ 20 → Exs prg w (MK w.params) (flaw_world.cx A h₀ L r) ρ H (flaw_world.body.drop 6) R) :
    Exs prg w (MK w.params) (flaw_world.cx A h₀ L r) ρ H (flaw_world.body.drop 5) R := by
  obtain ⟨ta, num, rs, S, n, m, M, P, hm⟩ := id I.at_
  have hhm := I.hm
  show Exs _ _ _ _ _ _ (_ :: _) _
  refine exs_cons (ex_for (G := fun j Pi H0 => (2 ≤ j ∧ j < 2 + 5 ∧ Mut w D (ta none) n m (rs.map .ref) (hs.map fun h : Nat => .int h) H0 ∧ LeB D.M H H0) ∧ Pi = fun i a => a = .int i) 4 rfl
    (it_range 16 rfl b_range (ev_addpick (c := 2) (b := 5) 17 ev_int rfl M (.cons (ev_local 0 rfl rg.1) rfl (.cons ev_int rfl .nil)) (by omega) (by show 2 ≤ r; omega) (by omega))) ?_)
  rintro j Pi H0 ⟨⟨hj1, hj4, M0, l0⟩, rfl⟩
  have I0 : WI w D W hs H0 := WI.next (ta := ta) M0 P hm l0 hhm
  clear M P hm M0 l0 I ta num rs S n m hhm
  refine ⟨fun k r a => Regs D r ∧ ∃ W', WI w D W' hs a ∧ W'.length = W.length + k, ⟨rg, W, I0, rfl⟩, ?_, ?_, ?_⟩
  · rintro i r a b lo ⟨q1, W, I, q2⟩
    exact ⟨q1, W, I.loc lo, q2⟩
  · rintro i ρ a av hi rfl ⟨rg, W', I, hl⟩
    obtain ⟨ta, num, rs, S, n, m, M, P, hm⟩ := I.at_
    have hhm := I.hm
    have hrl : rs.length = W'.length := P.rlen
    obtain ⟨home, hh⟩ : ∃ home, hs[0]? = some home := ⟨_, List.getElem?_eq_getElem (by omega)⟩
    obtain ⟨b, hb⟩ := hhm home (List.mem_of_getElem? hh)
    have hlt := get_lt hb
    show Exs _ _ _ _ _ _ (_ :: _) _
    refine exs_cons (ex_assign 8 rfl (ev_choose (xs := [.int 0, .int 2, .int ((W'.length : Int) - 1), .int home, .int 0, .int 2]) (b := 6) 17 rfl M (.cons ev_int rfl (.cons ev_int rfl (.cons (ev_bin (ev_lenw 19 rfl (ev_local 2 rfl rg.2.2.1) M.rows hrl (by omega)) ev_int rfl) rfl (.cons (ev_sub (ev_local 3 rfl rg.2.2.2) ev_int (.inl M.homes) (by rw [List.getElem?_map]; show Option.map _ hs[0]? = _; rw [hh]; rfl) (by decide) (by decide)) rfl (.cons ev_int rfl (.cons ev_int rfl .nil))))))
      (fun H => .cons (ev_local 0 rfl rg.1) rfl (.cons ev_int rfl .nil)) rfl (by decide) (by decide) (by show 2 ≤ r; omega)) fun av H1 q => ?_)
    obtain ⟨hin, M1, l1⟩ := q
    obtain ⟨inner, rfl, hi2⟩ : ∃ inner : Nat, av = .int inner ∧ inner < W'.length := by
      simp only [List.mem_cons, List.not_mem_nil, or_false] at hin
      rcases hin with rfl | rfl | rfl | rfl | rfl | rfl
      · exact ⟨0, rfl, by omega⟩
      · exact ⟨2, rfl, by omega⟩
      · exact ⟨W'.length - 1, by congr 1; omega, by omega⟩
      · exact ⟨home, rfl, hlt⟩
      · exact ⟨0, rfl, by omega⟩
      · exact ⟨2, rfl, by omega⟩
    refine exs_cons (ex_assign 9 rfl (ev_choose (xs := [.int 3, .int (-1), .int 4, .int (-1), .int 2]) (b := 5) 17 rfl M1 (.cons ev_int rfl (.cons (ev_neg ev_int) rfl (.cons ev_int rfl (.cons (ev_neg ev_int) rfl (.cons ev_int rfl .nil)))))
      (fun H => .cons (ev_local 0 rfl rg.1) rfl (.cons ev_int rfl .nil)) rfl (by decide) (by decide) (by show 2 ≤ r; omega)) fun av H2 q => ?_)
    obtain ⟨hin2, M2, l2⟩ := q
    obtain ⟨count, rfl⟩ : ∃ count : Int, av = .int count := by
      simp only [List.mem_cons, List.not_mem_nil, or_false] at hin2
      rcases hin2 with rfl | rfl | rfl | rfl | rfl <;> exact ⟨_, rfl⟩
    refine exs_cons (ex_assign 6 rfl (ev_mk5 (form := "array") (size := 0) (md := "") (lb := "") M2 (by omega) (ev_local 1 rfl rg.2.1) (.cons ev_str rfl (.cons ev_int rfl (.cons ev_str rfl (.cons ev_str rfl .nil)))) (by show 4 ≤ r; omega)) fun av H3 p => ?_)
    obtain ⟨x, p, rfl, N⟩ := p
    have xM : x ∉ D.M := M2.fresh N.new
    obtain ⟨s, hs'⟩ : ∃ s, W'[inner]? = some s := ⟨_, List.getElem?_eq_getElem hi2⟩
    have l03 := (l1.trans l2).trans N.le
    refine exs_cons (ex_setbase N.ty (ev_local 6 rfl rfl) (ev_rowsub (P := P) N.mt.rows l03.sle hs' (by omega) (ev_local 2 rfl rg.2.2.1) (ev_local 8 rfl rfl)) fun H4 ty l4 => ?_)
    refine exs_cons (ex_setlen ty (ev_local 6 rfl rfl) (ev_local 9 rfl rfl) fun H5 ty l5 => ?_)
    have l45 := l4.trans l5
    have M3 := N.mt.keep l45 (fun b hb => by rw [List.mem_singleton.mp hb]; exact ⟨xM, fun xs => N.ty.nt x (by simp) xs⟩)
    refine exs_cons (ex_addrow (avs := [.str "arr", .int count, .int inner]) M3 (fun H => ev_local 2 rfl rg.2.2.1) (ev_local 6 rfl rfl) (.cons ev_str rfl (.cons (ev_local 9 rfl rfl) rfl (.cons (ev_local 8 rfl rfl) rfl .nil))) (by show 3 ≤ 1000; decide) (by rw [List.length_map]; omega) fun sh r0 H6 M6 l6 e1 e2 n1 n2 => ?_)
    have l36 : LeB (x :: D.M) H3 H6 := (l45.more (by simp)).trans (l6.more fun b hb => List.mem_cons_of_mem _ hb)
    have l06 : LeB D.M a H6 := (l1.trans l2).trans (LeB.newer N.new ((N.le.more fun b hb => List.mem_cons_of_mem _ hb).trans l36))
    refine exs_nil ⟨⟨rg, W' ++ [.arr count inner], WI.add (s := .arr count inner) P l06 xM (ty.keep l6 xM) (fun _ _ q => by cases q) e2 n2 (stat_of e1 n1 (fun _ q => by cases q)) hi2 (fun q => by cases q) (by omega) hm M6 (fun h hh => rcd_mono (hhm h hh)), by simp; omega⟩, M.kr l06⟩
  · rintro r a ⟨rg, W', I, hl⟩
    exact k r a W' rg I (by omega) (by omega)
end
end Mine
namespace Mine
variable {w : World} {H H' G G' : AH} {C : Cx} {ρ : Rho} {W : List Sh} {ta : Option Nat → Addr} {num : Option Nat → Int} {rs : List Addr} {S S' : List Addr} {n : Int} {D : Ad} {tn : Addr} {m : Nat} {rl hl : List AV} {hs : List Nat}

theorem PairsOk.snoc {ts : List Addr} {ps : List (Nat × Nat)} {t : Addr} {p : Nat × Nat} (o : PairsOk G ts ps) (h : G t = some (.tup [.int p.1, .int p.2])) : PairsOk G (ts ++ [t]) (ps ++ [p]) := by
  induction o with
  | nil => exact .cons h .nil
  | cons a _ ih => exact .cons a ih
theorem SidesOk.snoc {ts : List Addr} {ps : List (Nat × Nat)} {t : Addr} {p : Nat × Nat} (o : SidesOk G ta ts ps) (h : Ob G t (kindOf p.1) (p.1 == 2) (.ref (ta (some p.2)))) : SidesOk G ta (ts ++ [t]) (ps ++ [p]) := by
  induction o with
  | nil => exact .cons h .nil
  | cons a _ ih => exact .cons a ih
theorem TyAt.loc {H0 : AH} {x p : Addr} {len lev : Int} {form : Str} {base : AV} (y : TyAt x n form base len lev p H) (l : Loc H0 H H') : TyAt x n form base len lev p H' := let ⟨d, fs, h1, r⟩ := y.at_; ⟨d, fs, l.fact h1 (fun _ q => by cases q), r⟩
theorem Le.locS {H0 H1 : AH} {M : List Addr} (l : Le (H1.stat M) H) (k : Loc H0 H H') : Le (H1.stat M) H' := fun b o e => k.fact (l b o e) (of_stat e).2.2
theorem Le.step {M : List Addr} (l : Le G H) (k : LeB M H H') (g : ∀ y ∈ M, G y = none) : Le G H' := fun b o e => k b o (fun q => by rw [g b q] at e; cases e) (l b o e)
theorem Ob.stat {x : Addr} {kd : Str} {ro : Bool} {t : AV} {M : List Addr} (y : Ob H x kd ro t) (n : x ∉ M) : Ob (H.stat M) x kd ro t := let ⟨d, fs, h1, r⟩ := y; ⟨d, fs, stat_of h1 n (fun _ q => by cases q), r⟩
theorem way_eq2 (v : Nat) : ((v : Int) == 2) = (v == 2) := by rw [Bool.eq_iff_iff, beq_iff_eq, beq_iff_eq]; omega

theorem ev_rangepick {xp pos : Pos} {e1 e2 : PySem.Expr} {b : Nat} (i : Nat) (nm : C.scope.names[i]? = some (("_law_pick" : Str), .globalImplicit)) (M : Mut w D tn n m rl hl H) (X : EvLP prg w (MK w.params) C ρ H [e1, e2] [.ref D.pool, .int b]) (hb : 0 < b) (hz : b < 1000000) (hr : 2 ≤ C.r)
    (hpl : ((backTo pos (starEach [e2] C.env)).any (·.1)) = false := by rfl) (hst : starEach [e1, e2] C.env = (false, eval e1 C.env) :: starEach [e2] C.env := by rfl) :
    EvG prg w (MK w.params) C ρ H (.Call (.Name "_law_pick" xp) [e1, e2] [] pos) (fun r H' => ∃ v : Nat, r = .int v ∧ v < 1000000 ∧ (v < b ∧ Mut w D tn n m rl hl H' ∧ LeB D.M H H')) :=
  (ev_pickw i nm M X hb hr hpl hst).imp fun r H' q => let ⟨v, e, hv, p, l⟩ := q; ⟨v, e, by omega, hv, p, l⟩
theorem ev_way2 {x : Str} {xp kp pos : Pos} {k way : Nat} (i : Nat) (nm : C.scope.names[i]? = some (x, .local)) (r12 : ρ i = some (.int way)) : EvP prg w (MK w.params) C ρ H (.Compare (.Name x xp) [.Eq] [.Constant (.int 2) k kp] pos) (.bool (way == 2)) :=
  ev_cmp (a := .int way) (b := .int 2) (ev_local i nm r12) ev_int (congrArg some (way_eq2 way))
/-- the sides' own places -/
def P4 (D : Ad) (x p sl : Addr) : List Addr := sl :: p :: x :: D.M
structure Turn (w : World) (D : Ad) (W : List Sh) (ta : Option Nat → Addr) (G H0 : AH) (tn : Addr) (n : Int) (m : Nat) (rl hl : List AV) (x p sl : Addr) (k : Nat) (ρ : Rho) (H : AH) : Prop where
  rg : Regs D ρ
  r6 : ρ 6 = some (.ref x)
  r10 : ρ 10 = some (.ref sl)
  mt : Mut w D tn n m rl hl H
  ty : TyAt x n "proc" .none 0 0 p H
  gl : Le G H
  le : LeB (P4 D x p sl) H0 H
  sd : ∃ ts os ps, H sl = some (.list (ts.map .ref)) ∧ H p = some (.list (os.map .ref)) ∧ PairsOk (H.stat (P4 D x p sl)) ts ps ∧ SidesOk (H.stat (P4 D x p sl)) ta os ps ∧ ps.length = k ∧ ∀ q ∈ ps, q.1 < 3 ∧ q.2 < W.length

theorem Turn.loc {M0 : List Addr} {H0 H1 : AH} {x p sl : Addr} {k : Nat} (T : Turn w D W ta (H1.stat M0) H0 tn n m rl hl x p sl k ρ H) (l : Loc H0 H H') : Turn w D W ta (H1.stat M0) H0 tn n m rl hl x p sl k ρ H' := by
  obtain ⟨ts, os, ps, h1, h2, h3, h4, h5, h6⟩ := T.sd
  exact ⟨T.rg, T.r6, T.r10, T.mt.loc l, T.ty.loc l, T.gl.locS l, fun y o ny e => l.old (T.le y o ny e) e, ts, os, ps, l.fact h1 (fun _ q => by cases q), l.fact h2 (fun _ q => by cases q), h3.mono l.stat, h4.mono l.stat, h5, h6⟩

section
variable {A : Around} {h₀ : Heap} {L : Addr} {r : Nat} {R : AF → Rho → AH → Prop}
theorem ev_kindat {p1 p2 p3 p4 lp sp : Pos} {k1 k2 k3 : Nat} {x : Str} {way : Nat} (i : Nat) (nm : C.scope.names[i]? = some (x, .local)) (r12 : ρ i = some (.int way)) (hw : way < 3) 
    (q1 : starEach [.Constant (.str "var") k1 p1, .Constant (.str "par") k2 p2, .Constant (.str "par") k3 p3] C.env = (false, eval (.Constant (.str "var") k1 p1) C.env) :: starEach [.Constant (.str "par") k2 p2, .Constant (.str "par") k3 p3] C.env := by rfl)
    (q2 : starEach [.Constant (.str "par") k2 p2, .Constant (.str "par") k3 p3] C.env = (false, eval (.Constant (.str "par") k2 p2) C.env) :: starEach [.Constant (.str "par") k3 p3] C.env := by rfl)
    (q3 : starEach [.Constant (.str "par") k3 p3] C.env = (false, eval (.Constant (.str "par") k3 p3) C.env) :: starEach [] C.env := by rfl) :
    EvP prg w (MK w.params) C ρ H (.Subscript (.List [.Constant (.str "var") k1 p1, .Constant (.str "par") k2 p2, .Constant (.str "par") k3 p3] lp) (.Name x p4) sp) (.str (kindOf way)) := by
  refine EvG.pl (ev_subG (P1 := fun a h => ∃ l, a = .ref l ∧ H l = none ∧ h = H.set l (.list [.str "var", .str "par", .str "par"])) (ev_list (P := fun l h => l = [.str "var", .str "par", .str "par"] ∧ h = H) ((EvLP.cons ev_str q1 (.cons ev_str q2 (.cons ev_str q3 .nil))).l ⟨rfl, rfl⟩) fun l h1 t p hn => ?_) fun av H1 p => ?_)
  · obtain ⟨rfl, rfl⟩ := p; exact ⟨by show 3 ≤ _; decide, t, rfl, hn, rfl⟩
  obtain ⟨l, rfl, hn, rfl⟩ := p
  refine ⟨l, rfl, (ev_local i nm r12).g ⟨way, [.str "var", .str "par", .str "par"], .str (kindOf way), rfl, .inl AH.set_self, by omega, by omega, ?_, rfl, (LeB.new (m := []) hn).le⟩⟩
  rw [Int.toNat_natCast]
  have : way = 0 ∨ way = 1 ∨ way = 2 := by omega
  rcases this with rfl | rfl | rfl <;> rfl

theorem world4 (hr : 6 ≤ r) (rg : Regs D ρ) (I : WI w D W hs H) (hW : 7 ≤ W.length) (hW2 : W.length ≤ 20)
    (k : ∀ ρ H W, Regs D ρ → WI w D W hs H → 7 ≤ W.length → W.length ≤ 24 → Exs prg w (MK w.params) (flaw_world.cx A h₀ L r) ρ H (flaw_world.body.drop 7) R) :
    Exs prg w (MK w.params) (flaw_world.cx A h₀ L r) ρ H (flaw_world.body.drop 6) R := by
  obtain ⟨ta, num, rs, S, n, m, M, P, hm⟩ := id I.at_
  have hhm := I.hm
  show Exs _ _ _ _ _ _ (_ :: _) _
  refine exs_cons (ex_for (G := fun j Pi H0 => (j < 5 ∧ Mut w D (ta none) n m (rs.map .ref) (hs.map fun h : Nat => .int h) H0 ∧ LeB D.M H H0) ∧ Pi = fun i a => a = .int i) 4 rfl
    (it_range 16 rfl b_range (ev_rangepick (b := 5) 17 rfl M (.cons (ev_local 0 rfl rg.1) rfl (.cons ev_int rfl .nil)) (by omega) (by omega) (by show 2 ≤ r; omega))) ?_)
  rintro j Pi H0 ⟨⟨hj4, M0, l0⟩, rfl⟩
  have I0 : WI w D W hs H0 := WI.next (ta := ta) M0 P hm l0 hhm
  clear M P hm M0 l0 I ta num rs S n m hhm
  refine ⟨fun k r a => Regs D r ∧ ∃ W', WI w D W' hs a ∧ W'.length = W.length + k, ⟨rg, W, I0, rfl⟩, ?_, ?_, ?_⟩
  · rintro i r a b lo ⟨q1, W, I, q2⟩
    exact ⟨q1, W, I.loc lo, q2⟩
  · rintro i ρ a av hi rfl ⟨rg, W', I, hl⟩
    obtain ⟨ta, num, rs, S, n, m, M, P, hm⟩ := I.at_
    have hhm := I.hm
    have hrl : rs.length = W'.length := P.rlen
    show Exs _ _ _ _ _ _ (_ :: _) _
    refine exs_cons (ex_assign 6 rfl (ev_mk3 (form := "proc") (size := 4) M (by omega) (ev_local 1 rfl rg.2.1) (.cons ev_str rfl (.cons ev_int rfl .nil)) (by show 4 ≤ r; omega)) fun av H1 p => ?_)
    obtain ⟨x, p, rfl, N⟩ := p
    have xM : x ∉ D.M := M.fresh N.new
    have pM : p ∉ D.M := M.fresh N.newp
    refine exs_cons (ex_assign (P := fun a h => ∃ f, a = .ref f ∧ H1 f = none ∧ h = H1.set f (.list [])) 10 rfl (ev_list (P := fun l h => l = [] ∧ h = H1) (evl_nil ⟨rfl, rfl⟩) fun l h1 t p hn => ?_) (fun av h p => ?_))
    · obtain ⟨rfl, rfl⟩ := p; exact ⟨by show 0 ≤ _; decide, t, rfl, hn, rfl⟩
    obtain ⟨sl, rfl, hsl, rfl⟩ := p
    have slM : sl ∉ D.M := N.mt.fresh hsl
    have slx : sl ≠ x := by rintro rfl; obtain ⟨d, fs, q, _⟩ := N.ty.at_; rw [q] at hsl; cases hsl
    have slp : sl ≠ p := by rintro rfl; rw [N.par] at hsl; cases hsl
    have asl : a sl = none := N.le.back slM hsl
    have l12 : LeB [] H1 (H1.set sl (.list [])) := LeB.new hsl
    have gz : ∀ y ∈ P4 D x p sl, (a.stat D.M) y = none := fun y hy => by
      have z : ∀ {y}, a y = none → (a.stat D.M) y = none := fun {y} e => by
        cases q : (a.stat D.M) y with
        | none => rfl
        | some o => rw [(of_stat q).1] at e; cases e
      simp only [P4, List.mem_cons] at hy
      rcases hy with rfl | rfl | rfl | hy
      · exact z asl
      · exact z N.newp
      · exact z N.new
      · unfold AH.stat; rw [if_pos hy]
    have g2 : Le (a.stat D.M) (H1.set sl (.list [])) := (N.le.sle).trans l12.le
    have M2 : Mut w D (ta none) (n + 1) (m + 1) (rs.map .ref) (hs.map fun h : Nat => .int h) (H1.set sl (.list [])) := N.mt.keep l12 (fun b hb => by cases hb)
    have ty2 := N.ty.keep l12 (by simp)
    have p2 := l12 p _ (by simp) N.par
    have s2 : (H1.set sl (.list [])) sl = some (.list []) := AH.set_self
    have aH2 : LeB D.M a (H1.set sl (.list [])) := N.le.trans (l12.more (by simp))
    generalize H1.set sl (.list []) = H2 at l12 g2 M2 ty2 p2 s2 aH2
    -- the sides
    refine exs_cons (ex_for (G := fun j Pi H0 => (j < 3 ∧ Mut w D (ta none) (n + 1) (m + 1) (rs.map .ref) (hs.map fun h : Nat => .int h) H0 ∧ LeB D.M H2 H0) ∧ Pi = fun i a => a = .int i) 11 rfl
      (it_range 16 rfl b_range (ev_rangepick (b := 3) 17 rfl M2 (.cons (ev_local 0 rfl rg.1) rfl (.cons ev_int rfl .nil)) (by omega) (by omega) (by show 2 ≤ r; omega))) ?_)
    rintro j' Pi H3 ⟨⟨hj3, M3, l3⟩, rfl⟩
    refine ⟨fun k r b => Turn w D W' ta (a.stat D.M) H3 (ta none) (n + 1) (m + 1) (rs.map .ref) (hs.map fun h : Nat => .int h) x p sl k r b, ?_, ?_, ?_, ?_⟩
    · exact ⟨rg, rfl, rfl, M3, ty2.keep l3 xM, g2.step l3 (fun y hy => gz y (by simp [P4, hy])), LeB.refl, [], [], [], l3 sl _ slM s2, l3 p _ pM p2, .nil, .nil, rfl, fun _ q => by cases q⟩
    · exact fun k r b b' lo T => T.loc lo
    · rintro kk ρ b av hk rfl T
      obtain ⟨ts, os, ps, q1, q2, q3, q4, q5, q6⟩ := T.sd
      have rg := T.rg
      have liveP : ∀ y ∈ P4 D x p sl, b y ≠ none := fun y hy => by
        simp only [P4, List.mem_cons] at hy
        rcases hy with rfl | rfl | rfl | hy
        · rw [q1]; exact fun q => by cases q
        · rw [q2]; exact fun q => by cases q
        · obtain ⟨d, fs, e, _⟩ := T.ty.at_; rw [e]; exact fun q => by cases q
        · exact T.mt.live y hy
      have subP : ∀ y ∈ D.M, y ∈ P4 D x p sl := fun y hy => by simp [P4, hy]
      show Exs _ _ _ _ _ _ (_ :: _) _
      refine exs_cons (ex_assign 8 rfl (ev_pickw (b := W'.length) 17 rfl T.mt (.cons (ev_local 0 rfl rg.1) rfl (.cons (ev_lenw 19 rfl (ev_local 2 rfl rg.2.2.1) T.mt.rows hrl (by omega)) rfl .nil)) (by omega) (by show 2 ≤ r; omega)) fun av b1 q => ?_)
      obtain ⟨inner, rfl, hin, M1, c1⟩ := q
      refine exs_cons (ex_assign 12 rfl (ev_pickw (b := 3) 17 rfl M1 (.cons (ev_local 0 rfl rg.1) rfl (.cons ev_int rfl .nil)) (by omega) (by show 2 ≤ r; omega)) fun av b2 q => ?_)
      obtain ⟨way, rfl, hwy, M2', c2⟩ := q
      obtain ⟨s, hs'⟩ : ∃ s, W'[inner]? = some s := ⟨_, List.getElem?_eq_getElem hin⟩
      have gl2 : Le (a.stat D.M) b2 := (T.gl.step c1 (fun y hy => gz y (subP y hy))).step c2 (fun y hy => gz y (subP y hy))
      refine exs_cons (ex_assign 13 rfl (ev_Obj (name := "x") (kind := kindOf way) (t := .ref (ta (some inner))) (place := 0) 21 rfl (.cons ev_str rfl (.cons (ev_kindat 12 rfl rfl hwy) rfl (.cons (ev_rowsub (P := P) M2'.rows gl2 hs' (by omega) (ev_local 2 rfl rg.2.2.1) (ev_local 8 rfl rfl)) rfl (.cons ev_int rfl .nil)))) (by show 2 ≤ r; omega)) fun av b3 q => ?_)
      obtain ⟨sd, rfl, m3⟩ := q
      obtain ⟨d, fs, o1, o2, o3, o4, o5⟩ := m3.at_
      have c02 : LeB (P4 D x p sl) b b2 := (c1.trans c2).more subP
      have sdP : sd ∉ P4 D x p sl := fun q => by
        have h0 := c02.back (x := sd)
        have : b2 sd ≠ none := by
          simp only [P4, List.mem_cons] at q
          rcases q with rfl | rfl | rfl | hy
          · rw [(c1.trans c2) _ _ slM q1]; exact fun q => by cases q
          · rw [(c1.trans c2) _ _ pM q2]; exact fun q => by cases q
          · obtain ⟨d, fs, e, _⟩ := T.ty.at_; rw [(c1.trans c2) _ _ xM e]; exact fun q => by cases q
          · exact M2'.live _ hy
        exact this m3.new
      refine exs_cons (ex_setattr (a := sd) (d := d) (fs := fs) (P := fun a h => a = .bool (way == 2) ∧ h = b3) (EvP.g (ev_way2 12 rfl rfl) ⟨rfl, rfl⟩) (fun av h p => ?_) kz_ob_readonly (by omega))
      obtain ⟨rfl, rfl⟩ := p
      refine ⟨ev_local 13 rfl rfl, o1, ?_⟩
      have oe : Ob (h.set sd (.inst 200 d (putF "readonly" (.bool (way == 2)) fs))) sd (kindOf way) (way == 2) (.ref (ta (some inner))) :=
        ⟨d, _, AH.set_self, by rw [lookF_ne (by decide)]; exact o2, lookF_self _ _ _, by rw [lookF_ne (by decide)]; exact o4⟩
      have c24 : LeB [] b2 (h.set sd (.inst 200 d (putF "readonly" (.bool (way == 2)) fs))) := LeB.newer m3.new ((m3.le.more (by simp)).trans (LeB.set (by simp)))
      generalize h.set sd (.inst 200 d (putF "readonly" (.bool (way == 2)) fs)) = b4 at oe c24
      have c04 : LeB D.M b b4 := (c1.trans c2).trans (c24.more (by simp))
      have M4 := M2'.keep c24 (fun b hb => by cases hb)
      have ty4 := T.ty.keep c04 xM
      have p4 := c04 p _ pM q2
      have s4 := c04 sl _ slM q1
      have hos : os.length ≤ 4 := by rw [q4.len, q5]; omega
      have hts : ts.length ≤ 4 := by rw [q3.len, q5]; omega
      refine exs_cons (ex_appendA (P := fun av h => av = .ref sd ∧ h = b4) (ev_params (ev_local 6 rfl T.r6) ty4.ty) p4 (EvP.g (ev_local 13 rfl rfl) ⟨rfl, rfl⟩) fun av h q => ?_)
      obtain ⟨rfl, rfl⟩ := q
      refine ⟨_, p4, by rw [List.length_map]; omega, ?_⟩
      have p5 : (h.set p (.list (os.map .ref ++ [.ref sd]))) p = some (.list ((os ++ [sd]).map .ref)) := by rw [AH.set_self, List.map_append]; rfl
      have s5 : (h.set p (.list (os.map .ref ++ [.ref sd]))) sl = _ := (AH.set_ne slp).trans s4
      have c45 : LeB [p] h (h.set p (.list (os.map .ref ++ [.ref sd]))) := LeB.set (by simp)
      have M5 := M4.keep c45 (fun b hb => by rw [List.mem_singleton.mp hb]; exact ⟨pM, fun xs q => by rw [p4] at q; cases q⟩)
      generalize h.set p (.list (os.map .ref ++ [.ref sd])) = b5 at p5 s5 c45 M5
      refine exs_cons (ex_append (P := fun av h => ∃ t, av = .ref t ∧ b5 t = none ∧ h = b5.set t (.tup [.int way, .int inner])) (ev_local 10 rfl T.r10) s5 (ev_tup (P := fun l h => l = [.int way, .int inner] ∧ h = b5) ((EvLP.cons (ev_local 12 rfl rfl) rfl (.cons (ev_local 8 rfl rfl) rfl .nil)).l ⟨rfl, rfl⟩) fun l h1 t p hn => ?_) fun av h q => ?_)
      · obtain ⟨rfl, rfl⟩ := p; exact ⟨by show 2 ≤ _; decide, t, rfl, hn, rfl⟩
      obtain ⟨t, rfl, ht, rfl⟩ := q
      have tsl : t ≠ sl := by rintro rfl; rw [s5] at ht; cases ht
      have tP : t ∉ P4 D x p sl := fun q => by
        simp only [P4, List.mem_cons] at q
        rcases q with rfl | rfl | rfl | hy
        · exact tsl rfl
        · rw [p5] at ht; cases ht
        · obtain ⟨d, fs, e, _⟩ := ty4.at_; rw [c45 _ _ (by simpa using N.px.symm) e] at ht; cases ht
        · exact M5.live _ hy ht
      have c56 : LeB [] b5 (b5.set t (.tup [.int way, .int inner])) := LeB.new ht
      have t6 : (b5.set t (.tup [.int way, .int inner])) t = some (.tup [.int way, .int inner]) := AH.set_self
      have M6 := M5.keep c56 (fun b hb => by cases hb)
      have s6 := c56 sl _ (by simp) s5
      have p6 := c56 p _ (by simp) p5
      generalize b5.set t (.tup [.int way, .int inner]) = b6 at c56 t6 M6 s6 p6
      refine ⟨_, s6, by rw [List.length_map]; omega, exs_nil ?_⟩
      have s7 : (b6.set sl (.list (ts.map .ref ++ [.ref t]))) sl = some (.list ((ts ++ [t]).map .ref)) := by rw [AH.set_self, List.map_append]; rfl
      have c67 : LeB [sl] b6 (b6.set sl (.list (ts.map .ref ++ [.ref t]))) := LeB.set (by simp)
      have M7 := M6.keep c67 (fun b hb => by rw [List.mem_singleton.mp hb]; exact ⟨slM, fun xs q => by rw [s6] at q; cases q⟩)
      generalize b6.set sl (.list (ts.map .ref ++ [.ref t])) = b7 at s7 c67 M7
      have c07 : LeB (P4 D x p sl) b b7 := ((c04.more subP).trans ((c45.more (by simp [P4])).trans ((c56.more (by simp)).trans (c67.more (by simp [P4])))))
      have c47 : LeB [p, sl] h b7 := (c45.more (by simp)).trans ((c56.more (by simp)).trans (c67.more (by simp)))
      refine ⟨⟨rg, T.r6, T.r10, M7, ty4.keep c47 (by simp; exact ⟨N.px.symm, slx.symm⟩), T.gl.step c07 gz, T.le.trans c07, ts ++ [t], os ++ [sd], ps ++ [(way, inner)], s7, c67 p _ (by simpa using slp.symm) p6, (q3.mono c07.stat).snoc (stat_of (c67 t _ (by simpa using tsl) t6) tP (fun _ q => by cases q)), (q4.mono c07.stat).snoc (Ob.stat ?_ sdP), by simp [q5], fun z hz => ?_⟩, ?_⟩
      · obtain ⟨d', fs', e, rest⟩ := oe
        exact ⟨d', fs', c47 sd _ (by simp; exact ⟨fun q => sdP (by simp [P4, q]), fun q => sdP (by simp [P4, q])⟩) e, rest⟩
      · rcases List.mem_append.mp hz with hz | hz
        · exact q6 z hz
        · rw [List.mem_singleton.mp hz]; exact ⟨hwy, hin⟩
      · refine c07.kr fun y hy o q => ?_
        simp only [P4, List.mem_cons] at hy
        rcases hy with rfl | rfl | rfl | hy
        · rw [q1] at q; cases q
        · rw [q2] at q; cases q
        · obtain ⟨d, fs, e, _⟩ := T.ty.at_; rw [e] at q; cases q
        · exact (T.mt.kind y hy).1 o q
    · rintro ρ b T
      obtain ⟨ts, os, ps, q1, q2, q3, q4, q5, q6⟩ := T.sd
      have rg := T.rg
      refine exs_cons (ex_assign 14 rfl (ev_choose (xs := [.int (-1), .int 0, .int (-1), .int ((W'.length : Int) - 1)]) (b := 4) 17 rfl T.mt (.cons (ev_neg ev_int) rfl (.cons ev_int rfl (.cons (ev_neg ev_int) rfl (.cons (ev_bin (ev_lenw 19 rfl (ev_local 2 rfl rg.2.2.1) T.mt.rows hrl (by omega)) ev_int rfl) rfl .nil))))
        (fun H => .cons (ev_local 0 rfl rg.1) rfl (.cons ev_int rfl .nil)) rfl (by decide) (by decide) (by show 2 ≤ r; omega)) fun av b1 q => ?_)
      obtain ⟨hin, M1, c1⟩ := q
      obtain ⟨back, rfl, hback⟩ : ∃ back : Option Nat, av = .int (idxI back) ∧ ∀ b, back = some b → b < W'.length := by
        simp only [List.mem_cons, List.not_mem_nil, or_false] at hin
        rcases hin with rfl | rfl | rfl | rfl
        · exact ⟨none, rfl, fun _ q => by cases q⟩
        · exact ⟨some 0, rfl, fun _ q => by cases q; omega⟩
        · exact ⟨none, rfl, fun _ q => by cases q⟩
        · exact ⟨some (W'.length - 1), by congr 1; show (W'.length : Int) - 1 = ((W'.length - 1 : Nat) : Int); omega, fun _ q => by cases q; omega⟩
      have gl1 : Le (a.stat D.M) b1 := T.gl.step c1 (fun y hy => gz y (by simp [P4, hy]))
      have ty1 := T.ty.keep c1 xM
      obtain ⟨fs, xc, Tt, hno, hch⟩ := M1.ts
      refine exs_cons (ex_setbase (v := .ref (ta back)) ty1 (ev_local 6 rfl T.r6) (ev_ife (ts_cmp (ev_local 14 rfl rfl) ev_int rfl) (fun e => ?_) (fun e => ?_)) fun b2 ty2 c2 => ?_)
      · have e : idxI back < 0 := of_decide_eq_true e
        cases back with
        | none => exact ev_attr (ev_local 1 rfl rg.2.1) Tt.self hno ka_ts_none
        | some z => exact absurd e (by show ¬ (z : Int) < 0; omega)
      · have e : ¬ idxI back < 0 := of_decide_eq_false e
        cases back with
        | none => exact absurd (by decide) e
        | some z =>
          obtain ⟨s, hs'⟩ : ∃ s, W'[z]? = some s := ⟨_, List.getElem?_eq_getElem (hback z rfl)⟩
          exact ev_rowsub (P := P) M1.rows gl1 hs' (by omega) (ev_local 2 rfl rg.2.2.1) (ev_local 14 rfl rfl)
      have M2 := M1.keep c2 (fun b hb => by rw [List.mem_singleton.mp hb]; exact ⟨xM, fun xs => ty1.nt x (by simp) xs⟩)
      refine exs_cons (ex_addrow (avs := [.str "proc", .ref sl, .int (idxI back)]) M2 (fun H => ev_local 2 rfl rg.2.2.1) (ev_local 6 rfl T.r6) (.cons ev_str rfl (.cons (ev_local 10 rfl T.r10) rfl (.cons (ev_local 14 rfl rfl) rfl .nil))) (by show 3 ≤ 1000; decide) (by rw [List.length_map]; omega) fun sh r0 b3 M3' c3 e1 e2 n1 n2 => ?_)
      have subP : ∀ y ∈ D.M, y ∈ P4 D x p sl := fun y hy => by simp [P4, hy]
      have c13 : LeB (x :: D.M) b b3 := (c1.more fun b hb => List.mem_cons_of_mem _ hb).trans ((c2.more (by simp)).trans (c3.more fun b hb => List.mem_cons_of_mem _ hb))
      have c13P : LeB (P4 D x p sl) b b3 := c13.more fun y hy => by rcases List.mem_cons.mp hy with rfl | hy; simp [P4]; exact subP y hy
      have gl3 : Le (a.stat D.M) b3 := T.gl.step c13P gz
      have gG : Le (a.stat D.M) (b3.stat D.M) := fun y o e => stat_of (gl3 y o e) (of_stat e).2.1 (of_stat e).2.2
      have s3 : b3 sl = some (.list (ts.map .ref)) := c13 sl _ (by simp; exact ⟨slx, slM⟩) q1
      have p3 : b3 p = some (.list (os.map .ref)) := c13 p _ (by simp; exact ⟨N.px, pM⟩) q2
      have s3G : (b3.stat D.M) sl = some (.list (ts.map .ref)) := stat_of s3 slM (fun _ q => by cases q)
      have P1 : Part (b3.stat D.M) W' ta num rs (sl :: S) n := P.addS gG (gz sl (by simp [P4])) (by rw [s3G]; exact fun q => by cases q)
      have lift : Le (b.stat (P4 D x p sl)) (b3.stat D.M) := c13P.stat.trans (stat_sub subP)
      have pS : p ∉ sl :: S := fun q => by
        rcases List.mem_cons.mp q with q | q
        · exact slp q.symm
        · exact P.live p q (gz p (by simp [P4]))
      have P2 := P1.snoc (x := x) (r := r0) (s := .proc ps back) ⟨fun z hz => q6 z hz, hback, by omega⟩ (.inl fun q => by cases q) (.inl (by omega)) ⟨0, p, (ty2.keep c3 xM).stat xM, fun sd bk e => by cases e; exact ⟨pS, os, stat_of p3 pM (fun _ q => by cases q), q4.mono lift⟩⟩
        ⟨sh, stat_of e2 n2 (fun _ q => by cases q), sl, ts, stat_of e1 n1 (fun _ q => by cases q), by simp, s3G, q3.mono lift⟩
      have c0 : LeB D.M a b3 := fun y o ny e => by
        have h1 : LeB D.M a H2 := aH2
        have hyx : y ≠ x := by rintro rfl; rw [N.new] at e; cases e
        have hyp : y ≠ p := by rintro rfl; rw [N.newp] at e; cases e
        have hys : y ≠ sl := by rintro rfl; rw [asl] at e; cases e
        have nP : y ∉ P4 D x p sl := by simp only [P4, List.mem_cons, not_or]; exact ⟨hys, hyp, hyx, ny⟩
        exact c13P y o nP (T.le y o nP (l3 y o ny (h1 y o ny e)))
      refine exs_nil ⟨⟨rg, W' ++ [.proc ps back], ⟨⟨ups ta W'.length x, ups num W'.length (n + 1), rs ++ [r0], sl :: S, n + 1, m + 1, ?_, P2, by simp; omega⟩, fun h hh => rcd_mono (hhm h hh)⟩, by simp; omega⟩, M.kr c0⟩
      rw [List.map_append]
      exact M3'
  · rintro r a ⟨rg, W', I, hl⟩
    exact k r a W' rg I (by omega) (by omega)
end
end Mine
namespace Mine
variable {w : World} {H H' G G' : AH} {C : Cx} {ρ : Rho} {W : List Sh} {ta : Option Nat → Addr} {num : Option Nat → Int} {rs : List Addr} {S S' : List Addr} {n : Int} {D : Ad} {tn : Addr} {m : Nat} {rl hl : List AV} {hs : List Nat} {prog : Program} {K : Frag}

theorem EvL.imp {pos : Pos} {es : List PySem.Expr} {P P' : List AV → AH → Prop} (x : EvL prog w K C ρ H pos es P) (i : ∀ a h, P a h → P' a h) : EvL prog w K C ρ H pos es P' :=
  fun s Q E S k => x s Q E S fun avs H1 vs h tk p o S' => k avs H1 vs h tk (i _ _ p) o S'
inductive RowsIn (H : AH) : List Addr → List (AV × Str) → Prop
  | nil : RowsIn H [] []
  | cons {r sh t tag rs ps} : H r = some (.tup [t, .ref sh]) → H sh = some (.tup [.str tag]) → RowsIn H rs ps → RowsIn H (r :: rs) ((t, tag) :: ps)
theorem RowsIn.len {ps : List (AV × Str)} (x : RowsIn H rs ps) : rs.length = ps.length := by induction x with | nil => rfl | cons _ _ _ ih => simp [ih]
theorem RowsIn.mono {ps : List (AV × Str)} (l : LeB [] H H') (x : RowsIn H rs ps) : RowsIn H' rs ps := by induction x with | nil => exact .nil | cons a b _ ih => exact .cons (l.le _ _ a) (l.le _ _ b) ih
theorem RowsIn.get {ps : List (AV × Str)} (x : RowsIn H rs ps) : ∀ {i : Nat} {r : Addr} {p : AV × Str}, rs[i]? = some r → ps[i]? = some p → ∃ sh, H r = some (.tup [p.1, .ref sh]) ∧ H sh = some (.tup [.str p.2]) := by
  induction x with
  | nil => intro i r p e; simp at e
  | cons a b _ ih =>
    intro i r p e1 e2
    cases i with
    | zero => simp at e1 e2; subst e1 e2; exact ⟨_, a, b⟩
    | succ i => simp at e1 e2; exact ih e1 e2
theorem evl_row {pos q1 q2 kp : Pos} {e1 : PySem.Expr} {es : List PySem.Expr} {tag : Str} {t : AV} {ps : List (AV × Str)} {c1 c2 k : Nat} (X1 : EvP prg w (MK w.params) C ρ H e1 t)
    (Y : ∀ H', LeB [] H H' → EvL prg w (MK w.params) C ρ H' pos es (fun as h => ∃ rs : List Addr, as = rs.map .ref ∧ LeB [] H' h ∧ RowsIn h rs ps))
    (h1 : starEach [e1, .Tuple [.Constant (.str tag) k kp] c1 q1] C.env = (false, eval e1 C.env) :: starEach [.Tuple [.Constant (.str tag) k kp] c1 q1] C.env := by rfl)
    (h2 : starEach [.Constant (.str tag) k kp] C.env = (false, eval (.Constant (.str tag) k kp) C.env) :: starEach [] C.env := by rfl)
    (he : starEach (.Tuple [e1, .Tuple [.Constant (.str tag) k kp] c1 q1] c2 q2 :: es) C.env = (false, eval (.Tuple [e1, .Tuple [.Constant (.str tag) k kp] c1 q1] c2 q2) C.env) :: starEach es C.env := by rfl) :
    EvL prg w (MK w.params) C ρ H pos (.Tuple [e1, .Tuple [.Constant (.str tag) k kp] c1 q1] c2 q2 :: es) (fun as h => ∃ rs : List Addr, as = rs.map .ref ∧ LeB [] H h ∧ RowsIn h rs ((t, tag) :: ps)) := by
  refine evl_cons (ev_rowtup (avs := [.str tag]) X1 (.cons ev_str h2 .nil) (by show 1 ≤ 1000; decide) h1) (fun a H1 p => ?_) he
  obtain ⟨sh, r0, rfl, a1, a2, a3, rfl⟩ := p
  have l : LeB [] H ((H.set sh (.tup [.str tag])).set r0 (.tup [t, .ref sh])) := (LeB.new a1).trans (LeB.new (by rw [AH.set_ne a3.symm]; exact a2))
  have f1 : ((H.set sh (.tup [.str tag])).set r0 (.tup [t, .ref sh])) r0 = _ := AH.set_self
  have f2 : ((H.set sh (.tup [.str tag])).set r0 (.tup [t, .ref sh])) sh = some (.tup [.str tag]) := by rw [AH.set_ne a3]; exact AH.set_self
  refine (Y _ l).imp fun as h p => ?_
  obtain ⟨rs, rfl, l2, rr⟩ := p
  exact ⟨r0 :: rs, rfl, l.trans l2, .cons (l2.le _ _ f1) (l2.le _ _ f2) rr⟩

def W0 : List Sh := [.int, .byte, .char, .bool, .set, .nil]
theorem b_world : ∀ vs : List Value, vs.length = 1 → bindArgs flaw_world.fd ⟨vs, []⟩ = pure (((flaw_world.scope.names.take 1).map (·.1)).zip vs) | [a], _ => by kernel_rfl
theorem valid0 {i : Option Nat} (v : Valid W0 i) : i = none ∨ i = some 0 ∨ i = some 1 ∨ i = some 2 ∨ i = some 3 ∨ i = some 4 ∨ i = some 5 := by
  cases i with
  | none => exact .inl rfl
  | some i =>
    have : i < 6 := v
    simp; omega
def ta0 (x1 x2 x3 x4 x5 x6 x7 : Addr) : Option Nat → Addr
  | none => x7 | some 0 => x4 | some 1 => x3 | some 2 => x2 | some 3 => x1 | some 4 => x5 | some _ => x6
def num0 : Option Nat → Int
  | none => 7 | some 0 => 4 | some 1 => 3 | some 2 => 2 | some 3 => 1 | some 4 => 5 | some _ => 6
theorem part0 {x1 x2 x3 x4 x5 x6 x7 p1 p2 p3 p4 p5 p6 p7 : Addr} (y1 : TyAt x1 1 "boolean" .none 0 0 p1 G) (y2 : TyAt x2 2 "char" .none 0 0 p2 G) (y3 : TyAt x3 3 "byte" .none 0 0 p3 G) (y4 : TyAt x4 4 "integer" .none 0 0 p4 G) (y5 : TyAt x5 5 "set" .none 0 0 p5 G) (y6 : TyAt x6 6 "nil" .none 0 0 p6 G) (y7 : TyAt x7 7 "none" .none 0 0 p7 G)
    (rr : RowsIn G rs [(.ref x4, "int"), (.ref x3, "byte"), (.ref x2, "char"), (.ref x1, "bool"), (.ref x5, "set"), (.ref x6, "nil")]) : Part G W0 (ta0 x1 x2 x3 x4 x5 x6 x7) num0 rs [] 7 where
  ty := fun i s e => by
    match i, e with
    | 0, e => cases e; exact ⟨0, p4, y4, fun _ _ q => by cases q⟩
    | 1, e => cases e; exact ⟨0, p3, y3, fun _ _ q => by cases q⟩
    | 2, e => cases e; exact ⟨0, p2, y2, fun _ _ q => by cases q⟩
    | 3, e => cases e; exact ⟨0, p1, y1, fun _ _ q => by cases q⟩
    | 4, e => cases e; exact ⟨0, p5, y5, fun _ _ q => by cases q⟩
    | 5, e => cases e; exact ⟨0, p6, y6, fun _ _ q => by cases q⟩
    | i + 6, e => have := get_lt e; exact absurd this (by show ¬ i + 6 < 6; omega)
  non := ⟨0, p7, y7⟩
  inj := fun i j vi vj e => by
    rcases valid0 vi with rfl | rfl | rfl | rfl | rfl | rfl | rfl <;> rcases valid0 vj with rfl | rfl | rfl | rfl | rfl | rfl | rfl <;> first | rfl | exact absurd e (by decide)
  le := fun i vi => by rcases valid0 vi with rfl | rfl | rfl | rfl | rfl | rfl | rfl <;> decide
  rlen := rr.len
  row := fun i s r e er => by
    match i, e with
    | 0, e => cases e; obtain ⟨sh, h1, h2⟩ := rr.get er rfl; exact ⟨sh, h1, h2⟩
    | 1, e => cases e; obtain ⟨sh, h1, h2⟩ := rr.get er rfl; exact ⟨sh, h1, h2⟩
    | 2, e => cases e; obtain ⟨sh, h1, h2⟩ := rr.get er rfl; exact ⟨sh, h1, h2⟩
    | 3, e => cases e; obtain ⟨sh, h1, h2⟩ := rr.get er rfl; exact ⟨sh, h1, h2⟩
    | 4, e => cases e; obtain ⟨sh, h1, h2⟩ := rr.get er rfl; exact ⟨sh, h1, h2⟩
    | 5, e => cases e; obtain ⟨sh, h1, h2⟩ := rr.get er rfl; exact ⟨sh, h1, h2⟩
    | i + 6, e => have := get_lt e; exact absurd this (by show ¬ i + 6 < 6; omega)
  wf := fun i s e => by
    match i, e with
    | 0, e => cases e; trivial
    | 1, e => cases e; trivial
    | 2, e => cases e; trivial
    | 3, e => cases e; trivial
    | 4, e => cases e; trivial
    | 5, e => cases e; trivial
    | i + 6, e => have := get_lt e; exact absurd this (by show ¬ i + 6 < 6; omega)
  char := fun i => by
    constructor
    · intro e
      match i, e with
      | 0, e => cases e
      | 1, e => cases e
      | 2, e => rfl
      | 3, e => cases e
      | 4, e => cases e
      | 5, e => cases e
      | i + 6, e => have := get_lt e; exact absurd this (by show ¬ i + 6 < 6; omega)
    · rintro rfl; rfl
  live := fun a h => by cases h

theorem c_world {pool figs : Addr} (po : PoolOk H pool figs) : Fn prg w (MK w.params) 261 6 [.ref pool] H (fun r H' => ∃ tp D W hs, r = .ref tp ∧ H' tp = some (.tup [.ref D.t, .ref D.rows]) ∧ D.pool = pool ∧ WI w D W hs H' ∧ 7 ≤ W.length ∧ W.length ≤ 24) := by
  refine fn_def flaw_world 1 k_law_world (binds_pos rfl (by kernel_rfl) (by kernel_rfl) b_world) fun A h₀ L r hr => ?_
  show Exs _ _ _ _ _ _ (_ :: _) _
  refine exs_cons (ex_assign 1 rfl (ev_new0 (need := 4) (P := fun a H2 => ∃ x d, a = .ref x ∧ H x = none ∧ H d = none ∧ x ≠ d ∧ Seven w ((H.set d (.own x)).set x (.inst 236 d [])) x H2) 15 rfl g_Types i_Types (fun x d hx hd hxd => ?_) hr) fun av H2 q => ?_)
  · exact fun C ρ A s R vs hz ha hr S o k => c_Types_init AH.set_self C ρ A s R vs hz ha hr S o fun av H' v h' tk p ov S' => k av H' v h' tk ⟨p.1, x, d, rfl, hx, hd, hxd, p.2⟩ ov S'
  obtain ⟨t, d0, rfl, ht, hd0, htd, sv⟩ := q
  obtain ⟨d, kd, fs, x1, x2, x3, x4, x5, x6, x7, p1, p2, p3, p4, p5, p6, p7, T, hkd, l2', ⟨f1, f2, f3, f4, f5, f6, f7⟩, y1, y2, y3, y4, y5, y6, y7⟩ := sv.at_
  have l02 : LeB [] H H2 := fun b o _ e => l2' b o (by rintro rfl; rw [ht] at e; cases e) (AH.set_keep (by rw [AH.set_ne htd]; exact ht) (AH.set_keep hd0 e))
  refine exs_cons (ex_assign (P := fun a h => ∃ l h0, ∃ rs : List Addr, a = .ref l ∧ LeB [] H2 h0 ∧ h0 l = none ∧ RowsIn h0 rs [(.ref x4, "int"), (.ref x3, "byte"), (.ref x2, "char"), (.ref x1, "bool"), (.ref x5, "set"), (.ref x6, "nil")] ∧ h = h0.set l (.list (rs.map .ref))) 2 rfl
    (ev_list (evl_row (ev_attr (ev_local 1 rfl rfl) T.self f4 ka_ts_integer) fun Ha la => evl_row (ev_attr (ev_local 1 rfl rfl) (la _ _ (by simp) T.self) f3 ka_ts_byte) fun Hb lb => evl_row (ev_attr (ev_local 1 rfl rfl) (lb _ _ (by simp) (la _ _ (by simp) T.self)) f2 ka_ts_char) fun Hc lc => evl_row (ev_attr (ev_local 1 rfl rfl) (lc _ _ (by simp) (lb _ _ (by simp) (la _ _ (by simp) T.self))) f1 ka_ts_boolean) fun Hd ld => evl_row (ev_attr (ev_local 1 rfl rfl) (ld _ _ (by simp) (lc _ _ (by simp) (lb _ _ (by simp) (la _ _ (by simp) T.self)))) f5 ka_ts_mask) fun He le => evl_row (ev_attr (ev_local 1 rfl rfl) (le _ _ (by simp) (ld _ _ (by simp) (lc _ _ (by simp) (lb _ _ (by simp) (la _ _ (by simp) T.self))))) f6 ka_ts_nil) fun Hf lf =>
      evl_nil ⟨[], rfl, LeB.refl, .nil⟩) fun avs H1 a p hn => ?_) fun av h q => ?_)
  · obtain ⟨rs, rfl, l, rr⟩ := p
    exact ⟨by rw [List.length_map, rr.len]; show 6 ≤ _; decide, a, H1, rs, rfl, l, hn, rr, rfl⟩
  obtain ⟨rows, H3, rs, rfl, l23, hrows, rr, rfl⟩ := q
  have l34 : LeB [] H3 (H3.set rows (.list (rs.map .ref))) := LeB.new hrows
  have r4 : (H3.set rows (.list (rs.map .ref))) rows = some (.list (rs.map .ref)) := AH.set_self
  generalize H3.set rows (.list (rs.map .ref)) = H4 at l34 r4
  refine exs_cons (ex_assign (P := fun a h => ∃ f, a = .ref f ∧ H4 f = none ∧ h = H4.set f (.list [])) 3 rfl (ev_list (P := fun l h => l = [] ∧ h = H4) (evl_nil ⟨rfl, rfl⟩) fun l h1 t p hn => ?_) (fun av h p => ?_))
  · obtain ⟨rfl, rfl⟩ := p; exact ⟨by show 0 ≤ _; decide, t, rfl, hn, rfl⟩
  obtain ⟨homes, rfl, hhomes, rfl⟩ := p
  have l45 : LeB [] H4 (H4.set homes (.list [])) := LeB.new hhomes
  have h5 : (H4.set homes (.list [])) homes = some (.list []) := AH.set_self
  generalize H4.set homes (.list []) = H5 at l45 h5
  have l25 : LeB [] H2 H5 := (l23.trans l34).trans l45
  have l05 := l02.trans l25
  obtain ⟨fl, i, mix, g1, g2, g3⟩ := po.at_
  have pf : pool ≠ figs := by
    rintro rfl; rw [g1] at g2
    cases fl with
    | nil => simp at g2
    | cons x xs => simp at g2
  have T5 : TypesAt w H5 t d kd fs 7 7 9 := T.keep l25 (by simp) (by simp) (fun b hb => by cases hb)
  obtain ⟨ok, hok⟩ := T5.kn.dic
  have gp := l05 pool _ (by simp) g1
  have gf := l05 figs _ (by simp) g2
  have r5 := l45 rows _ (by simp) r4
  have d1 : ∀ z xs, H5 z = some (.list xs) → t ≠ z ∧ kd ≠ z := fun z xs e => ⟨(by rintro rfl; rw [T5.self] at e; cases e), (by rintro rfl; rw [hok] at e; cases e)⟩
  have d2 : pool ≠ rows := by rintro rfl; rw [(l02.trans l23) _ _ (by simp) g1] at hrows; cases hrows
  have d3 : figs ≠ rows := by rintro rfl; rw [(l02.trans l23) _ _ (by simp) g2] at hrows; cases hrows
  have d4 : pool ≠ homes := by rintro rfl; rw [((l02.trans l23).trans l34) _ _ (by simp) g1] at hhomes; cases hhomes
  have d5 : figs ≠ homes := by rintro rfl; rw [((l02.trans l23).trans l34) _ _ (by simp) g2] at hhomes; cases hhomes
  have d6 : rows ≠ homes := by rintro rfl; rw [r4] at hhomes; cases hhomes
  have nd : (Ad.M ⟨t, d, kd, pool, figs, rows, homes⟩).Nodup := by
    simp only [Ad.M, List.nodup_cons, List.mem_cons, List.not_mem_nil, or_false, not_or, not_false_eq_true, List.nodup_nil, and_true]
    exact ⟨⟨T5.kdt.symm, (d1 _ _ gp).1, (d1 _ _ gf).1, (d1 _ _ r5).1, (d1 _ _ h5).1⟩, ⟨(d1 _ _ gp).2, (d1 _ _ gf).2, (d1 _ _ r5).2, (d1 _ _ h5).2⟩, ⟨pf, d2, d4⟩, ⟨d3, d5⟩, d6⟩
  have up : ∀ {x p : Addr} {n : Int} {form : Str}, TyAt x n form .none 0 0 p (H2.del [t, kd]) → TyAt x n form .none 0 0 p (H5.stat (Ad.M ⟨t, d, kd, pool, figs, rows, homes⟩)) := fun {x p n form} y => by
    obtain ⟨dd, ff, q1, q2⟩ := y.at_
    obtain ⟨q3, q4⟩ := of_del q1
    have q5 := l25 x _ (by simp) q3
    refine ⟨dd, ff, stat_of q5 (fun q => ?_) (fun _ q => by cases q), q2⟩
    simp only [Ad.M, List.mem_cons, List.not_mem_nil, or_false, not_or] at q q4
    rcases q with rfl | rfl | rfl | rfl | rfl | rfl
    · exact q4.1 rfl
    · exact q4.2 rfl
    · rw [gp] at q5; cases q5
    · rw [gf] at q5; cases q5
    · rw [r5] at q5; cases q5
    · rw [h5] at q5; cases q5
  have rr5 : RowsIn (H5.stat (Ad.M ⟨t, d, kd, pool, figs, rows, homes⟩)) rs [(.ref x4, "int"), (.ref x3, "byte"), (.ref x2, "char"), (.ref x1, "bool"), (.ref x5, "set"), (.ref x6, "nil")] := by
    have M5 : Mut w ⟨t, d, kd, pool, figs, rows, homes⟩ x7 7 7 (rs.map .ref) [] H5 := ⟨⟨fs, x2, T5, f7, f2⟩, ⟨fl, i, mix, gp, gf, g3⟩, r5, h5, nd⟩
    have q := rr.mono (l34.trans l45)
    have up2 : ∀ {z xs}, H5 z = some (.tup xs) → (H5.stat (Ad.M ⟨t, d, kd, pool, figs, rows, homes⟩)) z = some (.tup xs) := fun {z xs} e => stat_of e (fun q => (M5.kind z q).2 _ e) (fun _ q => by cases q)
    generalize [((.ref x4 : AV), ("int" : Str)), (.ref x3, "byte"), (.ref x2, "char"), (.ref x1, "bool"), (.ref x5, "set"), (.ref x6, "nil")] = ps at q
    clear rr r4 r5 M5
    induction q with
    | nil => exact .nil
    | cons a b _ ih => exact .cons (up2 a) (up2 b) ih
  have I5 : WI w ⟨t, d, kd, pool, figs, rows, homes⟩ W0 [] H5 :=
    ⟨⟨ta0 x1 x2 x3 x4 x5 x6 x7, num0, rs, [], 7, 7, ⟨⟨fs, x2, T5, f7, f2⟩, ⟨fl, i, mix, gp, gf, g3⟩, r5, h5, nd⟩, part0 (up y1) (up y2) (up y3) (up y4) (up y5) (up y6) (up y7) rr5, by decide⟩, fun _ q => by cases q⟩
  refine world1 hr ⟨rfl, rfl, rfl, rfl⟩ I5 rfl fun ρ H W hs rg I h1 h2 h3 => world2 hr rg I h1 h2 h3 fun ρ H W rg I h1' h2' => world3 hr rg I h1' h2' (by omega) (by omega) fun ρ H W rg I h1 h2 => world4 hr rg I h1 h2 fun ρ H W rg I h1 h2 => ?_
  show Exs _ _ _ _ _ _ (_ :: _) _
  refine exs_cons (ex_retG (ev_tup (P := fun l h => l = [.ref t, .ref rows] ∧ h = H) ((EvLP.cons (ev_local 1 rfl rg.2.1) rfl (.cons (ev_local 2 rfl rg.2.2.1) rfl .nil)).l ⟨rfl, rfl⟩) (R := fun a H' => ∃ tp, a = .ref tp ∧ H tp = none ∧ H' = H.set tp (.tup [.ref t, .ref rows])) fun l h1 t p hn => ?_) fun av H' q => ?_)
  · obtain ⟨rfl, rfl⟩ := p; exact ⟨by show 2 ≤ _; decide, t, rfl, hn, rfl⟩
  obtain ⟨tp, rfl, hn, rfl⟩ := q
  have l : LeB [] H (H.set tp (.tup [.ref t, .ref rows])) := LeB.new hn
  obtain ⟨ta, num, rs, S, n, m, M, P, hm⟩ := I.at_
  exact ⟨tp, ⟨t, d, kd, pool, figs, rows, homes⟩, W, hs, rfl, AH.set_self, rfl, WI.next (M.keep l (fun b hb => by cases hb)) P hm (l.more (by simp)) I.hm, h1, h2⟩
end Mine
namespace Mine
variable {w : World} {H H' G G' : AH} {C : Cx} {ρ : Rho} {W : List Sh} {ta : Option Nat → Addr} {num : Option Nat → Int} {rs : List Addr} {S S' : List Addr} {n : Int} {D : Ad} {tn : Addr} {m : Nat} {rl hl : List AV} {hs : List Nat}

/-- all but lists stay -/
def LeN (H H' : AH) : Prop := ∀ b o, (∀ xs, o ≠ .list xs) → H b = some o → H' b = some o
theorem TyAt.nl {x p : Addr} {len lev : Int} {form : Str} {base : AV} (l : LeN H H') (y : TyAt x n form base len lev p H) : TyAt x n form base len lev p H' := let ⟨d, fs, h1, r⟩ := y.at_; ⟨d, fs, l _ _ (fun _ q => by cases q) h1, r⟩
theorem Ob.nl {x : Addr} {kd : Str} {ro : Bool} {t : AV} (l : LeN H H') (y : Ob H x kd ro t) : Ob H' x kd ro t := let ⟨d, fs, h1, r⟩ := y; ⟨d, fs, l _ _ (fun _ q => by cases q) h1, r⟩
theorem SidesOk.nl {os : List Addr} {ps : List (Nat × Nat)} (l : LeN H H') (x : SidesOk H ta os ps) : SidesOk H' ta os ps := by induction x with | nil => exact .nil | cons h _ ih => exact .cons (h.nl l) ih
theorem PairsOk.nl {ts : List Addr} {ps : List (Nat × Nat)} (l : LeN H H') (x : PairsOk H ts ps) : PairsOk H' ts ps := by induction x with | nil => exact .nil | cons h _ ih => exact .cons (l _ _ (fun _ q => by cases q) h) ih

def M3 (D : Ad) : List Addr := [D.t, D.kd, D.pool]
theorem M3_sub {y : Addr} (h : y ∈ M3 D) : y ∈ D.M := by simp [M3] at h; simp [Ad.M]; rcases h with h | h | h <;> simp [h]
theorem Part.wok (P : Part (H.stat D.M) W ta num rs S n) (M : Mut w D tn n m (rs.map .ref) hl H) (hW : W.length ≤ 40) (e1 : ∀ a, ¬ a ∈ S → H' a = H a) (e2 : ∀ a xs, a ∈ S → H a = some (.list xs) → RawList H' a xs) (e3 : ∀ a o, (∀ xs, o ≠ .list xs) → H a = some o → H' a = some o) :
    WOk (H'.del (M3 D)) W D.rows ta num := by
  have lift : LeN (H.stat D.M) (H'.del (M3 D)) := fun b o nl e => let ⟨a1, a2, _⟩ := of_stat e; del_of (e3 b o nl a1) fun q => a2 (M3_sub q)
  have rS : D.rows ∉ S := fun q => P.live _ q (by unfold AH.stat; rw [if_pos (by simp [Ad.M])])
  have r3 : D.rows ∉ M3 D := by
    have := M.nd
    simp only [Ad.M, List.nodup_cons, List.mem_cons, List.not_mem_nil, or_false, not_or, not_false_eq_true, List.nodup_nil, and_true] at this
    simp only [M3, List.mem_cons, List.not_mem_nil, or_false, not_or]
    exact ⟨Ne.symm this.1.2.2.2.1, Ne.symm this.2.1.2.2.1, Ne.symm this.2.2.1.2.1⟩
  refine ⟨fun i s e => ?_, ?_, P.inj, ⟨rs, del_of ((e1 _ rS).trans M.rows) r3, P.rlen, fun i s r e er => ?_⟩, P.wf, hW⟩
  · obtain ⟨lev, par, t, k⟩ := P.ty i s e
    refine ⟨par, (t.nl lift).ty, fun sd bk q => ?_⟩
    obtain ⟨q0, os, q1, q2⟩ := k sd bk q
    obtain ⟨z1, z2, _⟩ := of_stat q1
    exact ⟨os, del_of ((e1 _ q0).trans z1) fun q => z2 (M3_sub q), q2.nl lift⟩
  · obtain ⟨lev, par, t⟩ := P.non
    exact ⟨par, (t.nl lift).ty⟩
  · obtain ⟨sh, h1, h2⟩ := P.row i s r e er
    refine ⟨sh, lift _ _ (fun _ q => by cases q) h1, ?_⟩
    cases s with
    | proc sd bk =>
      obtain ⟨sl, ts, a1, a2, a3, a4⟩ := h2
      obtain ⟨z1, z2, _⟩ := of_stat a3
      obtain ⟨vs, c, k1, k2⟩ := e2 sl _ a2 z1
      exact ⟨sl, ts, lift _ _ (fun _ q => by cases q) a1, ⟨vs, c, del_of k1 fun q => z2 (M3_sub q), k2⟩, a4.nl lift⟩
    | _ => exact lift _ _ (fun _ q => by cases q) h2

/-- types.string(..) -/
theorem b_tss : ∀ vs : List Value, vs.length = 2 → bindArgs fTypes_string.fd ⟨vs, []⟩ = pure (((fTypes_string.scope.names.take 2).map (·.1)).zip vs) | [a, b], _ => by kernel_rfl
theorem c_string {t d kd xc : Addr} {fs : List (Str × AV)} {len : Int} {m k : Nat} (T : TypesAt w H t d kd fs n m k) (hc : lookF "char" fs = some (.ref xc)) (hm : m ≤ 100000) (hk : k ≤ 900) :
    Fn prg w (MK w.params) 233 4 [.ref t, .int len] H (fun r H' => ∃ x p, r = .ref x ∧ H x = none ∧ TyAt x (n + 1) "string" (.ref xc) len 0 p H' ∧ LeB [t, kd] H H' ∧ TypesAt w H' t d kd (putF "counter" (.int (n + 1)) fs) (n + 1) (m + 1) k) := by
  refine fn_def fTypes_string 2 k_Types_string (binds_pos rfl (by kernel_rfl) (by kernel_rfl) b_tss) fun A h₀ L r hr => ?_
  show Exs _ _ _ _ _ _ (_ :: _) _
  refine exs_cons (ex_assign 2 rfl (ev_newm3 (form := "string") (size := len) T hm hk (ev_local 0 rfl rfl) (.cons ev_str rfl (.cons (ev_local 1 rfl rfl) rfl .nil)) hr) fun av H1 q => ?_)
  obtain ⟨x, p, rfl, N⟩ := q
  have xM : x ∉ [t, kd] := fun q => T.live x q N.new
  refine exs_cons (ex_setlen N.ty (ev_local 2 rfl rfl) (ev_local 1 rfl rfl) fun H2 y2 l2 => ?_)
  have xt : t ≠ x := fun q => xM (by simp [q])
  have xk : kd ≠ x := fun q => xM (by simp [q])
  refine exs_cons (ex_setbase y2 (ev_local 2 rfl rfl) (ev_attr (ev_local 0 rfl rfl) (l2 t _ (by simpa using xt) N.ts.self) (by rw [lookF_ne (by decide)]; exact hc) ka_ts_char) fun H3 y3 l3 => ?_)
  have l13 := l2.trans l3
  refine exs_cons (ex_ret (ev_local 2 rfl rfl) ⟨x, p, rfl, N.new, y3, LeB.newer N.new ((N.le.more (by simp)).trans (l13.more (by simp))), N.ts.keep l13 (by simpa using xt) (by simpa using xk) N.ty.nt⟩)
end Mine
namespace Mine
variable {w : World} {H H' G G' : AH} {C : Cx} {ρ : Rho} {W : List Sh} {ta : Option Nat → Addr} {num : Option Nat → Int}

/-! the two readings agree -/
section
variable {i j : Nat} {s t : Sh}
theorem fits_agree : lfitW W i j s t = fitsW W i j s t := by
  unfold lfitW fitsW
  rw [form_tag_arr, form_tag_rec]
  cases isOpenS t with
  | true => rfl
  | false =>
    cases (tagOf t == ("rec" : Str)) with
    | true => rfl
    | false =>
      show ((j : Int) == i) = (some j == some i)
      rw [Bool.eq_iff_iff, beq_iff_eq, beq_iff_eq]
      constructor
      · intro h; congr 1; omega
      · intro h; cases h; rfl
def isIntT (s : Sh) : Bool := (["int", "byte"] : List Str).any (· == tagOf s)
theorem int_agree (s : Sh) : isIntT s = isIntS s := by cases s <;> (simp only [isIntT, isIntS, tagOf, formOf] <;> try decide)
theorem tag_nil (s : Sh) : (tagOf s == ("nil" : Str)) = (formOf s == ("nil" : Str)) := by cases s <;> (simp only [formOf, tagOf] <;> try decide)
theorem tag_ptr (s : Sh) : (tagOf s == ("ptr" : Str)) = (formOf s == ("pointer" : Str)) := by cases s <;> (simp only [formOf, tagOf] <;> try decide)
theorem tag_proc (s : Sh) : (tagOf s != ("proc" : Str)) = !(formOf s == ("proc" : Str)) := by cases s <;> (simp only [formOf, tagOf] <;> try decide)
theorem ok_eq (b : Bool) : (okStr b == ("" : Str)) = b := by cases b <;> decide
theorem nat_int_eq (i j : Nat) : ((j : Int) == i) = (some j == some i) := by
  rw [Bool.eq_iff_iff, beq_iff_eq, beq_iff_eq]
  constructor
  · intro h; congr 1; omega
  · intro h; cases h; rfl
/-- a plain parameter -/
theorem plain_agree (hs : W[i]? = some s) (ht : W[j]? = some t) (na : (formOf t == ("array" : Str)) = false) (np : (tagOf t != ("proc" : Str)) = true) :
    (asgW W i j s t == ("" : Str)) = (((j : Int) == i) || ((isIntT t && isIntT s) || (((tagOf s == ("nil" : Str)) && (tagOf t == ("ptr" : Str))) || aboveW W i j))) := by
  rw [nat_int_eq, int_agree, int_agree, tag_nil, tag_ptr]
  rw [tag_proc] at np
  have np : (formOf t == ("proc" : Str)) = false := not_t np
  unfold asgW
  cases (some j == some i) with
  | true => rfl
  | false =>
    cases (isIntS t && isIntS s) with
    | true => rfl
    | false =>
      simp only [Bool.false_or, if_neg Bool.false_ne_true]
      cases hn : (formOf s == ("nil" : Str)) with
      | true =>
        simp only [if_true, np, Bool.or_false, Bool.true_and, ok_eq]
        have : aboveW W i j = false := by
          unfold aboveW; rw [hs]
          cases s <;> first | rfl | (exfalso; revert hn; simp only [formOf]; decide)
        rw [this, Bool.or_false]
      | false =>
        have : eqaW W t s = false := by
          unfold eqaW
          rw [if_pos]
          rw [Bool.or_eq_true]; left
          show (!(formOf t == ("array" : Str))) = true
          rw [na]; rfl
        simp only [if_neg Bool.false_ne_true, this, Bool.or_false, Bool.false_and, Bool.false_or]
        cases aboveW W i j <;> decide
theorem arr_fa {c : Int} {k : Nat} : (formOf (.arr c k) == ("array" : Str)) = true := (by decide : (("array" : Str) == "array") = true)
theorem arr_fr {c : Int} {k : Nat} : (formOf (.arr c k) == ("record" : Str)) = false := (by decide : (("array" : Str) == "record") = false)
theorem arr_ta {c : Int} {k : Nat} : (tagOf (.arr c k) == ("arr" : Str)) = true := (by decide : (("arr" : Str) == "arr") = true)
theorem arr_tr {c : Int} {k : Nat} : (tagOf (.arr c k) == ("rec" : Str)) = false := (by decide : (("arr" : Str) == "rec") = false)
/-- a structured value parameter: the law's second reading of a closed array -/
def lfit2 (W : List Sh) (i j : Nat) (s t : Sh) : Bool :=
  if ((tagOf t == ("arr" : Str)) && (decide (0 ≤ lenOf t) && !lfitW W i j s t)) = true then (tagOf s == ("arr" : Str)) && ((lenOf s == lenOf t) && alikeF W W.length (innerOf t) (innerOf s)) else lfitW W i j s t
theorem struct_agree (ra : (["rec", "arr"] : List Str).any (· == tagOf t) = true) : lfit2 W i j s t = fitsS W i j s t := by
  have hr : (∃ a, t = .rcd a) ∨ ∃ c k, t = .arr c k := by
    cases t <;> first | exact .inl ⟨_, rfl⟩ | exact .inr ⟨_, _, rfl⟩ | (exfalso; revert ra; simp only [tagOf]; decide)
  rcases hr with ⟨a, rfl⟩ | ⟨c, k, rfl⟩
  · rfl
  · unfold lfit2
    by_cases hc : c < 0
    · have op : isOpenS (.arr c k) = true := Bool.and_eq_true_iff.mpr ⟨arr_fa, decide_eq_true hc⟩
      rw [if_neg (by
        show ¬ (_ && (decide (0 ≤ c) && _)) = true
        rw [decide_eq_false (by omega)]; simp)]
      unfold lfitW fitsS
      rw [if_pos op, if_pos op, form_tag_arr]
    · have op : isOpenS (.arr c k) = false := by
        show (_ && decide (c < 0)) = false
        rw [decide_eq_false hc, Bool.and_false]
      have e1 : lfitW W i j s (.arr c k) = (some j == some i) := by
        unfold lfitW
        rw [op, if_neg Bool.false_ne_true, arr_tr, if_neg Bool.false_ne_true, nat_int_eq]
      have e2 : fitsS W i j s (.arr c k) = ((some j == some i) || (eqaW W (.arr c k) s && (lenOf s == lenOf (.arr c k)))) := by
        unfold fitsS
        rw [op, if_neg Bool.false_ne_true, arr_fr, if_neg Bool.false_ne_true]
      rw [e1, e2, arr_ta, show decide (0 ≤ lenOf (.arr c k)) = true from decide_eq_true (show 0 ≤ c by omega)]
      cases hji : (some j == some i) with
      | true => rfl
      | false =>
        rw [if_pos (show (true && (true && !false)) = true from rfl), Bool.false_or, ← form_tag_arr]
        unfold eqaW
        have ea : (formOf (.arr c k) != ("array" : Str)) = false := by show (!(formOf (.arr c k) == ("array" : Str))) = false; rw [arr_fa]; rfl
        rw [ea, Bool.false_or]
        cases hs : (formOf s == ("array" : Str)) with
        | false =>
          rw [if_pos (by show (!(formOf s == ("array" : Str))) = true; rw [hs]; rfl)]; rfl
        | true =>
          rw [if_neg (by show ¬ (!(formOf s == ("array" : Str))) = true; rw [hs]; decide)]
          cases hl : (lenOf s == lenOf (.arr c k)) with
          | false => simp
          | true =>
            have hl' : lenOf s = lenOf (.arr c k) := beq_iff_eq.mp hl
            rw [if_neg (by rw [hl']; simp)]
            simp
end

/-! the state of the law's loop -/
structure LI (w : World) (D : Ad) (W : List Sh) (num : Option Nat → Int) (G : AH) (k : Nat) (H : AH) : Prop where
  ts : ∃ fs n m xc, TypesAt w H D.t D.d D.kd fs n m 9 ∧ lookF "char" fs = some (.ref xc) ∧ m ≤ 100 + k ∧ ∀ i, Valid W i → num i ≤ n
  pool : PoolOk H D.pool D.figs
  gl : Le G H
  g0 : ∀ z ∈ M3 D, G z = none
  nd : D.M.Nodup
variable {D : Ad} {k : Nat}
theorem LI.kind (I : LI w D W num G k H) : ∀ z ∈ M3 D, (∀ o, H z ≠ some (.raw o)) ∧ (∀ o, H z ≠ some (.tup o)) ∧ H z ≠ none := by
  intro z hz
  obtain ⟨fs, n, m, xc, T, _⟩ := I.ts
  obtain ⟨o, e⟩ := T.kn.dic
  obtain ⟨fl, i, mix, p1, p2, _⟩ := I.pool.at_
  simp only [M3, List.mem_cons, List.not_mem_nil, or_false] at hz
  rcases hz with rfl | rfl | rfl
  · rw [T.self]; exact ⟨fun _ q => (by cases q), fun _ q => (by cases q), fun q => by cases q⟩
  · rw [e]; exact ⟨fun _ q => (by cases q), fun _ q => (by cases q), fun q => by cases q⟩
  · rw [p1]; exact ⟨fun _ q => (by cases q), fun _ q => (by cases q), fun q => by cases q⟩
theorem LI.fresh (I : LI w D W num G k H) {x : Addr} (h : H x = none) : x ∉ M3 D := fun q => (I.kind x q).2.2 h
theorem LI.nds (I : LI w D W num G k H) : D.t ∉ [D.pool] ∧ D.kd ∉ [D.pool] ∧ D.pool ∉ [D.t, D.kd] ∧ D.figs ∉ [D.t, D.kd] := by
  obtain ⟨a1, a2, _, _, a5, a6, _⟩ := Ad.nds I.nd
  exact ⟨a1, a2, a5, a6⟩
theorem LI.new (I : LI w D W num G k H) (l : LeB [] H H') : LI w D W num G k H' := by
  obtain ⟨fs, n, m, xc, T, h⟩ := I.ts
  exact ⟨⟨fs, n, m, xc, T.keep l (by simp) (by simp) (fun b hb => by cases hb), h⟩, I.pool.keep l (by simp) (by simp), I.gl.trans l.le, I.g0, I.nd⟩
theorem LI.pick (I : LI w D W num G k H) (P : PoolOk H' D.pool D.figs) (l : LeB [D.pool] H H') : LI w D W num G k H' := by
  obtain ⟨fs, n, m, xc, T, h⟩ := I.ts
  obtain ⟨a1, a2, a3, a4⟩ := I.nds
  exact ⟨⟨fs, n, m, xc, T.keep l a1 a2 (fun b hb => (I.kind b (by rw [List.mem_singleton.mp hb]; simp [M3])).2.1), h⟩, P, I.gl.step l (fun y hy => I.g0 y (by rw [List.mem_singleton.mp hy]; simp [M3])), I.g0, I.nd⟩
theorem LI.loc {H0 : AH} (I : LI w D W num G k H) (g : Le G H0) (l : Loc H0 H H') : LI w D W num G k H' := by
  obtain ⟨fs, n, m, xc, T, h⟩ := I.ts
  obtain ⟨o, e⟩ := T.kn.dic
  obtain ⟨fl, i, mix, p1, p2, p3⟩ := I.pool.at_
  exact ⟨⟨fs, n, m, xc, ⟨l.fact T.self (fun _ q => by cases q), T.cnt, T.kno, T.kn.mono (by rw [l.fact e (fun _ q => by cases q), e]) (fun b xs e => l.fact e (fun _ q => by cases q)), T.len, T.no1, T.no2⟩, h⟩,
    ⟨fl, i, mix, l.fact p1 (fun _ q => by cases q), l.fact p2 (fun _ q => by cases q), p3⟩, fun x o e => l.old (I.gl x o e) (g x o e), I.g0, I.nd⟩
theorem LI.up (I : LI w D W num G k H) : LI w D W num G (k + 1) H := let ⟨fs, n, m, xc, T, h1, h2, h3⟩ := I.ts; ⟨⟨fs, n, m, xc, T, h1, by omega, h3⟩, I.pool, I.gl, I.g0, I.nd⟩
theorem LI.kr (I : LI w D W num G k H) (l : LeB (M3 D) H H') : KR H H' := l.kr fun b hb o => (I.kind b hb).1 o
theorem ev_pickl {xp pos : Pos} {e1 e2 : PySem.Expr} {b : Nat} (i : Nat) (nm : C.scope.names[i]? = some (("_law_pick" : Str), .globalImplicit)) (I : LI w D W num G k H) (X : EvLP prg w (MK w.params) C ρ H [e1, e2] [.ref D.pool, .int b]) (hb : 0 < b) (hr : 2 ≤ C.r)
    (hpl : ((backTo pos (starEach [e2] C.env)).any (·.1)) = false := by rfl) (hst : starEach [e1, e2] C.env = (false, eval e1 C.env) :: starEach [e2] C.env := by rfl) :
    EvG prg w (MK w.params) C ρ H (.Call (.Name "_law_pick" xp) [e1, e2] [] pos) (fun r H' => ∃ v : Nat, r = .int v ∧ v < b ∧ LI w D W num G k H' ∧ LeB (M3 D) H H') :=
  (ev_pick i nm X hb I.pool hr hpl hst).imp fun r H' q => let ⟨v, e, hv, p, l⟩ := q; ⟨v, e, hv, I.pick p l, l.more (by simp [M3])⟩
end Mine
namespace Mine
variable {w : World} {H H' G G' : AH} {C : Cx} {ρ : Rho} {W : List Sh} {ta : Option Nat → Addr} {num : Option Nat → Int} {D : Ad} {k : Nat}

theorem ev_Node5G {xp lp pos : Pos} {e1 e2 e3 e5 : PySem.Expr} {op : Str} {v : AV} {place : Int} {P3 : AV → AH → Prop} (i : Nat) (n : C.scope.names[i]? = some (("Node" : Str), .globalImplicit))
    (X1 : EvP prg w (MK w.params) C ρ H e1 (.str op)) (X2 : EvP prg w (MK w.params) C ρ H e2 (.int place)) (X3 : EvG prg w (MK w.params) C ρ H e3 P3) (V : ∀ H, EvP prg w (MK w.params) C ρ H e5 v) (hr : 2 ≤ C.r)
    (q1 : starEach [e1, e2, e3, .List [] lp, e5] C.env = (false, eval e1 C.env) :: starEach [e2, e3, .List [] lp, e5] C.env := by rfl) (q2 : starEach [e2, e3, .List [] lp, e5] C.env = (false, eval e2 C.env) :: starEach [e3, .List [] lp, e5] C.env := by rfl)
    (q3 : starEach [e3, .List [] lp, e5] C.env = (false, eval e3 C.env) :: starEach [.List [] lp, e5] C.env := by rfl) (q5 : starEach [e5] C.env = (false, eval e5 C.env) :: starEach [] C.env := by rfl)
    (hpl : ((backTo pos (starEach [e2, e3, .List [] lp, e5] C.env)).any (·.1)) = false := by rfl) :
    EvG prg w (MK w.params) C ρ H (.Call (.Name "Node" xp) [e1, e2, e3, .List [] lp, e5] [] pos) (fun av H2 => ∃ x t H1, av = .ref x ∧ P3 t H1 ∧ MadeNd H1 x op t [] v H2) := by
  refine ev_new (P1 := fun avs H1 => ∃ l t H3, avs = [.str op, .int place, t, .ref l, v] ∧ P3 t H3 ∧ H3 l = none ∧ H1 = H3.set l (.list [])) i n g_Node i_Node ?_ (fun avs H1 p x d hx hd hxd => ?_) (need := 0) hr hpl q1
  · refine evl_consP X1 (evl_consP X2 (evl_cons X3 (fun t H3 p3 => evl_cons (P1 := fun a H1 => ∃ l, a = .ref l ∧ H3 l = none ∧ H1 = H3.set l (.list [])) (ev_list (P := fun l h => l = [] ∧ h = H3) (evl_nil ⟨rfl, rfl⟩) fun l h1 t p hn => ?_) (fun a H1 p => evl_consP (V _) (evl_nil ?_) q5) rfl) q3) q2) q1
    · obtain ⟨rfl, rfl⟩ := p; exact ⟨by show 0 ≤ _; decide, t, rfl, hn, rfl⟩
    · obtain ⟨l, rfl, h1, h2⟩ := p; exact ⟨l, t, H3, rfl, p3, h1, h2⟩
  obtain ⟨l, t, H3, rfl, p3, hl, rfl⟩ := p
  exact fun C ρ A s R vs hz ha hr S o k => c_Node_init AH.set_self binds_node6 C ρ A s R vs hz ha hr S o fun av H' v h' tk q ov S' => k av H' v h' tk ⟨q.1, x, t, H3, rfl, p3, made_nd hl hx hd hxd q.2⟩ ov S'

/-- types.string(count) -/
theorem ev_strty {x : Str} {xp ap pos : Pos} {e : PySem.Expr} {len : Int} (I : LI w D W num G k H) (hk : k ≤ 100) (O : EvP prg w (MK w.params) C ρ H (.Name x xp) (.ref D.t)) (X : EvLP prg w (MK w.params) C ρ H [e] [.int len]) (hr : 6 ≤ C.r)
    (h1 : methodCallForm ([e].length + 0) (backTo pos (starEach [e] C.env)) (backToKw pos (keywordEach [] C.env)) = true := by rfl) (h2 : (ap.endLine == pos.line) = true := by rfl)
    (hpl : ((backTo pos (starEach [] C.env)).any (·.1)) = false := by rfl) (hst : starEach [e] C.env = (false, eval e C.env) :: starEach [] C.env := by rfl) :
    EvG prg w (MK w.params) C ρ H (.Call (.Attribute (.Name x xp) "string" ap) [e] [] pos) (fun a H' => ∃ y nb bs pb, a = .ref y ∧ H y = none ∧ TyAt y nb "string" bs len 0 pb H' ∧ (∀ i, Valid W i → (num i == nb) = false) ∧ LeB (M3 D) H H' ∧ LI w D W num G (k + 1) H') := by
  obtain ⟨fs, n, m, xc, T, hc, hm, hn⟩ := I.ts
  obtain ⟨a1, a2, a3, a4⟩ := I.nds
  refine (ev_meth (P1 := fun l h => l = [.int len] ∧ h = H) O T.self T.no2 m_string (X.l ⟨rfl, rfl⟩) (fun avs H1 p => by rw [p.1, p.2]; exact c_string (n := n) T hc (by omega) (by decide)) hr h1 h2 hpl hst).imp fun a H' q => ?_
  obtain ⟨y, p, rfl, hy, t, l, T'⟩ := q
  refine ⟨y, n + 1, _, p, rfl, hy, t, fun i vi => ?_, l.more (by simp [M3]), ⟨⟨_, n + 1, m + 1, xc, T', by rw [lookF_ne (by decide)]; exact hc, by omega, fun i vi => by have := hn i vi; omega⟩, I.pool.keep l a3 a4, I.gl.step l (fun z hz => I.g0 z (by simp [M3] at hz ⊢; rcases hz with h | h <;> simp [h])), I.g0, I.nd⟩⟩
  have := hn i vi
  rw [beq_eq_false_iff_ne]; omega

def dueC (W : List Sh) (mb : Bool) (t : Sh) : Str := if mb = true then okStr (isOpenS t && (innerOf t).any fun m => W[m]?.any fun s => formOf s == ("char" : Str)) else "not_a_variable"
def dueN (W : List Sh) (mb : Bool) (way i j : Nat) (s t : Sh) : Str := if mb = true then okStr (fitsS W i j s t) else pvW (desW way) (roW way) (fitsW W i j s t)

theorem Ty.ofAt {x p : Addr} {n len lev : Int} {form : Str} {base : AV} (y : TyAt x n form base len lev p H) : Ty H x n form base len p := y.ty
/-- passable, of a text -/
theorem c_pass_const (K : WOk H W D.rows ta num) {i j : Nat} {s t : Sh} (hs : W[i]? = some s) (ht : W[j]? = some t) {sd node kids b pb : Addr} {v bs : AV} {nb lb : Int} {mb : Bool} (ob : Ob H sd "par" mb (.ref (ta (some j)))) (nd : Nd H node "const" (.ref b) kids v)
    (y : Ty H b nb "string" bs lb pb) (hn : (num (some j) == nb) = false) : Fn prg w (MK w.params) 162 (4 * W.length + 8) [.ref sd, .ref node] H (fun r H' => r = .str (dueC W mb t) ∧ H' = H) := by
  have mon : ∀ {n : Nat} {f : Addr} {args : List AV} {P : AV → AH → Prop}, n ≤ 4 * W.length + 8 → Fn prg w (MK w.params) f n args H P → Fn prg w (MK w.params) f (4 * W.length + 8) args H P := fun {n f args P} h x C ρ A s R vs hz ha hr S o k => x C ρ A s R vs hz ha (by omega) S o k
  cases mb with
  | false =>
    have := c_pv (w := w) K hs ht (.here nd (by decide)) nd nd (ro := false) (fun q => absurd q (by decide)) (fun q => absurd q (by decide))
    exact mon (by omega) (c_pass_v ob this)
  | true =>
    have := c_ps_str (w := w) K ht nd y hn
    exact mon (by omega) (c_pass_s ob this)
/-- passable, of a node -/
theorem c_pass_node (K : WOk H W D.rows ta num) {i j way : Nat} {s t : Sh} (hs : W[i]? = some s) (ht : W[j]? = some t) {sd node : Addr} {mb : Bool} (ob : Ob H sd "par" mb (.ref (ta (some j)))) (nd : NodeOk H node (.ref (ta (some i))) way) :
    Fn prg w (MK w.params) 162 (4 * W.length + 8) [.ref sd, .ref node] H (fun r H' => r = .str (dueN W mb way i j s t) ∧ H' = H) := by
  have mon : ∀ {n : Nat} {f : Addr} {args : List AV} {P : AV → AH → Prop}, n ≤ 4 * W.length + 8 → Fn prg w (MK w.params) f n args H P → Fn prg w (MK w.params) f (4 * W.length + 8) args H P := fun {n f args P} h x C ρ A s R vs hz ha hr S o k => x C ρ A s R vs hz ha (by omega) S o k
  obtain ⟨c, n, op₀, op, kids₀, kids, v₀, v, ty, ro, rt, nd, nc, hro, e1, e2, _⟩ := nd.at_
  cases mb with
  | false =>
    have := c_pv (w := w) K hs ht rt nd nc (ro := ro) hro (fun _ => rfl)
    rw [e1, e2] at this
    exact mon (by omega) (c_pass_v ob this)
  | true => exact mon (by omega) (c_pass_s ob (c_ps (w := w) K hs ht nd))
end Mine
namespace Mine
variable {w : World} {H H' G G' : AH} {C : Cx} {ρ : Rho} {W : List Sh} {ta : Option Nat → Addr} {num : Option Nat → Int} {D : Ad} {k : Nat}

def RegL (D : Ad) (r : Rho) : Prop := r 1 = some (.ref D.pool) ∧ r 2 = some (.ref D.t) ∧ r 3 = some (.ref D.rows)
theorem ev_lenk {xp pos : Pos} {e : PySem.Expr} (K : WOk H W D.rows ta num) (i : Nat) (nm : C.scope.names[i]? = some (("len" : Str), NameKind.globalImplicit)) (X : EvP prg w (MK w.params) C ρ H e (.ref D.rows))
    (hst : starEach [e] C.env = [(false, eval e C.env)] := by rfl) : EvP prg w (MK w.params) C ρ H (.Call (.Name "len" xp) [e] [] pos) (.int W.length) := by
  obtain ⟨rs, h1, h2, _⟩ := K.rows
  exact ev_lenw i nm X h1 h2 K.small hst

/-- the constants at the end of a turn -/
structure Due (w : World) (D : Ad) (W : List Sh) (num : Option Nat → Int) (G a : AH) (k : Nat) (sd : Addr) (r : Rho) (h : AH) : Prop where
  rg : RegL D r
  r8 : r 8 = some (.ref sd)
  li : LI w D W num G (k + 1) h
  le : LeB (M3 D) a h
  fn : ∃ node due, r 13 = some (.ref node) ∧ r 14 = some (.str due) ∧ Fn prg w (MK w.params) 162 (4 * W.length + 8) [.ref sd, .ref node] h (fun r H' => r = .str due ∧ H' = h)

section
variable {A : Around} {h₀ : Heap} {L : Addr} {r : Nat}
/-- what a parameter's Obj is just now -/
structure Side (H : AH) (sd : Addr) (kind : Str) (ro : Bool) (t : AV) : Prop where
  at_ : ∃ d fs, H sd = some (.inst 200 d fs) ∧ lookF "kind" fs = some (.str kind) ∧ lookF "readonly" fs = some (.bool ro) ∧ lookF "type" fs = some t ∧ fs.length ≤ 20
theorem Side.ob {sd : Addr} {kind : Str} {ro : Bool} {t : AV} (s : Side H sd kind ro t) : Ob H sd kind ro t := let ⟨d, fs, h1, h2, h3, h4, _⟩ := s.at_; ⟨d, fs, h1, h2, h3, h4⟩
theorem Side.keep {sd : Addr} {kind : Str} {ro : Bool} {t : AV} {l : List Addr} (s : Side H sd kind ro t) (k : LeB l H H') (n : sd ∉ l) : Side H' sd kind ro t := let ⟨d, fs, h1, r⟩ := s.at_; ⟨d, fs, k _ _ n h1, r⟩
theorem ex_setro {sd : Addr} {kind : Str} {ro b : Bool} {t : AV} {o e : PySem.Expr} {tp pos : Pos} {R : AF → Rho → AH → Prop} (s : Side H sd kind ro t) (O : EvP prg w (MK w.params) C ρ H o (.ref sd)) (X : EvP prg w (MK w.params) C ρ H e (.bool b)) (r : ∀ H', Side H' sd kind b t → LeB [sd] H H' → R .next ρ H')
    (hsw : swapsWith e (some (.Attribute o "readonly" tp)) pos.line C.env = pure false := by rfl) : Ex1 prg w (MK w.params) C ρ H (.Assign [.Attribute o "readonly" tp] e pos) R := by
  obtain ⟨d, fs, h, h1, h2, h3, h4⟩ := s.at_
  refine ex_setattr (a := sd) (d := d) (fs := fs) (EvP.g (P := fun a h => a = .bool b ∧ h = H) X ⟨rfl, rfl⟩) (fun a h' q => ?_) kz_ob_readonly (by omega) hsw
  obtain ⟨rfl, rfl⟩ := q
  exact ⟨O, h, r _ ⟨d, _, AH.set_self, by rw [lookF_ne (by decide)]; exact h1, lookF_self _ _ _, by rw [lookF_ne (by decide)]; exact h3, by rw [putF_len h2]; exact h4⟩ (LeB.set (by simp))⟩
theorem ex_setkind {sd : Addr} {kind kd : Str} {ro : Bool} {t : AV} {o e : PySem.Expr} {tp pos : Pos} {R : AF → Rho → AH → Prop} (s : Side H sd kind ro t) (O : EvP prg w (MK w.params) C ρ H o (.ref sd)) (X : EvP prg w (MK w.params) C ρ H e (.str kd)) (r : ∀ H', Side H' sd kd ro t → LeB [sd] H H' → R .next ρ H')
    (hsw : swapsWith e (some (.Attribute o "kind" tp)) pos.line C.env = pure false := by rfl) : Ex1 prg w (MK w.params) C ρ H (.Assign [.Attribute o "kind" tp] e pos) R := by
  obtain ⟨d, fs, h, h1, h2, h3, h4⟩ := s.at_
  refine ex_setattr (a := sd) (d := d) (fs := fs) (EvP.g (P := fun a h => a = .str kd ∧ h = H) X ⟨rfl, rfl⟩) (fun a h' q => ?_) kz_ob_kind (by omega) hsw
  obtain ⟨rfl, rfl⟩ := q
  exact ⟨O, h, r _ ⟨d, _, AH.set_self, lookF_self _ _ _, by rw [lookF_ne (by decide)]; exact h2, by rw [lookF_ne (by decide)]; exact h3, by rw [putF_len h1]; exact h4⟩ (LeB.set (by simp))⟩

theorem mode_eq {m : Nat} (h : m < 2) : ((m : Int) == 0) = !((m : Int) == 1) := by
  have : m = 0 ∨ m = 1 := by omega
  rcases this with rfl | rfl <;> rfl

theorem Fn.imp {prog : Program} {K : Frag} {f : Addr} {need : Nat} {args : List AV} {P P' : AV → AH → Prop} (x : Fn prog w K f need args H P) (i : ∀ a h, P a h → P' a h) : Fn prog w K f need args H P' :=
  fun C ρ A s R vs hz ha hr S o k => x C ρ A s R vs hz ha hr S o fun av H' v h' tk p ov S' => k av H' v h' tk (i _ _ p) ov S'
theorem LI.keepS {sd : Addr} (I : LI w D W num G k H) (l : LeB [sd] H H') (hM : sd ∉ M3 D) (hG : G sd = none) (hi : ∃ c d fs, H sd = some (.inst c d fs)) : LI w D W num G k H' := by
  obtain ⟨fs, n, m, xc, T, h⟩ := I.ts
  obtain ⟨c, d, ff, e⟩ := hi
  obtain ⟨fl, i, mix, p1, p2, p3⟩ := I.pool.at_
  simp only [M3, List.mem_cons, List.not_mem_nil, or_false, not_or] at hM
  exact ⟨⟨fs, n, m, xc, T.keep l (by simpa using Ne.symm hM.1) (by simpa using Ne.symm hM.2.1) (fun b hb xs q => by rw [List.mem_singleton.mp hb, e] at q; cases q), h⟩, I.pool.keep l (by simpa using Ne.symm hM.2.2) (by simp; rintro rfl; rw [p2] at e; cases e), I.gl.step l (fun y hy => by rw [List.mem_singleton.mp hy]; exact hG), I.g0, I.nd⟩
theorem LI.none (I : LI w D W num G k H) {x : Addr} (h : H x = none) : G x = none := by
  cases e : G x with
  | none => rfl
  | some o => rw [I.gl x o e] at h; cases h
theorem Side.inst {sd : Addr} {kind : Str} {ro : Bool} {t : AV} (s : Side H sd kind ro t) : ∃ c d fs, H sd = some (.inst c d fs) := let ⟨d, fs, h, _⟩ := s.at_; ⟨200, d, fs, h⟩

/-- a turn's rest, a plain parameter -/
theorem law_plain {a : AH} {sd : Addr} {to spot : Nat} {s t : Sh} {sh si : Addr} {R : AF → Rho → AH → Prop} {body : List Stmt}
    (hb : body = match flaw.body with | [_, _, .For _ _ b _ _, _] => (match b.getD 7 (.Pass default) with | .If _ b _ _ => b | _ => []) | _ => []) (hr : 110 ≤ r) (K : WOk G W D.rows ta num) (h6 : 7 ≤ W.length) (h24 : W.length ≤ 24)
    (rg : RegL D ρ) (I : LI w D W num G k H) (hs : W[spot]? = some s) (ht : W[to]? = some t) (rt : Row G D.rows to (ta (some to)) sh) (ot : ShOk G sh t) (rs : Row G D.rows spot (ta (some spot)) si) (os : ShOk G si s)
    (r5 : ρ 5 = some (.int to)) (r7 : ρ 7 = some (.ref sh)) (r8 : ρ 8 = some (.ref sd)) (r10 : ρ 10 = some (.int spot)) (S : Side H sd "par" true (.ref (ta (some to)))) (nsd : a sd = none) (le : LeB (sd :: M3 D) a H) (la : LI w D W num G k a)
    (nra : (!(["rec", "arr"] : List Str).any (· == tagOf t)) = true) (fin : ∀ r h, RegL D r → LI w D W num G (k + 1) h → LeB (M3 D) a h → R .cont r h) :
    Exs prg w (MK w.params) (flaw.cx A h₀ L r) ρ H body R := by
  subst hb
  show Exs _ _ _ _ _ _ (_ :: _) _
  have nf : (formOf t == ("array" : Str)) = false := by
    cases t <;> first | (simp only [formOf] <;> decide) | (exfalso; revert nra; simp only [tagOf] <;> decide)
  have sdM : sd ∉ M3 D := la.fresh nsd
  refine exs_cons (ex_setkind S (ev_local 8 rfl r8) ev_str fun H1 S1 l1 => ?_)
  refine exs_cons (ex_setro S1 (ev_local 8 rfl r8) ev_bool fun H2 S2 l2 => ?_)
  have G0 : G sd = none := la.none nsd
  have I1 := I.keepS l1 sdM G0 S.inst
  have I2 := I1.keepS l2 sdM G0 S1.inst
  have K2 : WOk H2 W D.rows ta num := K.mono I2.gl
  obtain ⟨s6, hs6⟩ : ∃ s, W[6]? = some s := ⟨_, List.getElem?_eq_getElem (by omega)⟩
  refine exs_cons (ex_assign 11 rfl (ev_callG (need := 4 * W.length + 10) (P1 := fun l h => ∃ x, l = [.ref sd, .ref x] ∧ LeB [] H2 h ∧ NodeOk h x (.ref (ta (some spot))) 0) (P := fun v h => (∃ x, v = .str x ∧ (bothProc s t = false → x = asgW W spot to s t)) ∧ LeB [] H2 h) 23 rfl g_passable
    (evl_consP (ev_local 8 rfl r8) (evl_cons (ev_callG (P1 := fun l h => l = [.ref D.pool, .ref D.rows, .int spot, .int 0] ∧ h = H2) 24 rfl g_law_node ((EvLP.cons (ev_local 1 rfl rg.1) rfl (.cons (ev_local 3 rfl rg.2.2) rfl (.cons (ev_local 10 rfl r10) rfl (.cons ev_int rfl .nil)))).l ⟨rfl, rfl⟩) (fun l h p => by rw [p.1, p.2]; exact c_node (way := 0) K2 hs hs6 (by decide) D.pool) (by show 2 + 2 ≤ r; omega)) (fun v h p => evl_nil ?_) rfl) rfl)
    (fun avs h p => ?_) (by show 4 * W.length + 10 + 2 ≤ r; omega)) (fun v h p => ?_))
  · obtain ⟨x, rfl, l, no⟩ := p
    exact ⟨x, rfl, l, no⟩
  · obtain ⟨x, rfl, l, no⟩ := p
    obtain ⟨c, n, op₀, op, kids₀, kids, v₀, v, ty, ro, _, nd, _, _, _, _, hop⟩ := no.at_
    have hop := hop rfl
    subst hop
    exact (c_pass_a (S2.keep l (by simp)).ob (c_asg (w := w) (K2.mono l.le) hs ht nd)).imp fun v h q => ⟨q.1, by rw [q.2]; exact l⟩
  obtain ⟨⟨x, rfl, hx⟩, l3⟩ := p
  have I3 := I2.new l3
  have rt3 := rt.mono I3.gl
  have ot3 := ot.mono I3.gl
  have rs3 := rs.mono I3.gl
  have os3 := os.mono I3.gl
  have la3 : LeB (M3 D) a h := LeB.newer nsd (((le.trans (l1.more (by simp))).trans (l2.more (by simp))).trans (l3.more (by simp)))
  refine exs_cons (ex_if (c := false) ?_ (fun q => by cases q) (fun _ => exs_nil (exs_cons (ex_cont (fin _ _ rg I3.up la3)))))
  have key : ((tagOf t != ("proc" : Str)) && (((x == ("" : Str)) != (((to : Int) == spot) || ((isIntT t && isIntT s) || (((tagOf s == ("nil" : Str)) && (tagOf t == ("ptr" : Str))) || aboveW W spot to)))) && true)) = false := by
    cases hp : (tagOf t != ("proc" : Str)) with
    | false => rfl
    | true =>
      have bp : bothProc s t = false := by
        unfold bothProc
        rw [tag_proc] at hp
        rw [not_t hp]; rfl
      rw [hx bp, plain_agree hs ht nf hp]; simp
  rw [← key]
  refine ts_and (ts_cmp (ev_tag ot3 (ev_local 7 rfl r7)) ev_str rfl) fun _ => ts_and (ts_cmp (a := .bool (x == ("" : Str))) (ev_cmp (ev_local 11 rfl rfl) ev_str rfl) (ev_or (ev_cmp (ev_local 5 rfl r5) (ev_local 10 rfl r10) rfl) fun _ => ev_or (ev_and (ev_in ["int", "byte"] (ev_tag ot3 (ev_local 7 rfl r7)) (.cons ev_str rfl (.cons ev_str rfl .nil))) fun _ => ev_bo1 (ev_in ["int", "byte"] (ev_tag os3 (ev_row1 rs3 (ev_local 3 rfl rg.2.2) (ev_local 10 rfl r10))) (.cons ev_str rfl (.cons ev_str rfl .nil)))) fun _ =>
    ev_or (ev_and (ev_cmp (ev_tag os3 (ev_row1 rs3 (ev_local 3 rfl rg.2.2) (ev_local 10 rfl r10))) ev_str rfl) fun _ => ev_bo1 (ev_cmp (ev_tag ot3 (ev_local 7 rfl r7)) ev_str rfl)) fun _ => ev_bo1 (ev_call 25 rfl g_law_above (.cons (ev_local 3 rfl rg.2.2) rfl (.cons (ev_local 10 rfl r10) rfl (.cons (ev_local 5 rfl r5) rfl .nil))) (c_lab (K.mono I3.gl) hs ht) (by show 2 + 2 ≤ r; omega))) rfl) fun _ => ts_and0
end
end Mine
namespace Mine
variable {w : World} {H H' G G' : AH} {C : Cx} {ρ : Rho} {W : List Sh} {ta : Option Nat → Addr} {num : Option Nat → Int} {D : Ad} {k : Nat}

def arrIn : Sh → Int
  | .arr _ k => k
  | _ => 0
theorem form_char {s : Sh} (e : (formOf s == ("char" : Str)) = true) : s = .char := by
  cases s <;> first | rfl | (exfalso; revert e; simp only [formOf] <;> decide)
theorem dueC_no {mb : Bool} {t : Sh} (hch : ∀ i, W[i]? = some .char ↔ i = 2) (e : (mb && ((tagOf t == ("arr" : Str)) && (decide (lenOf t < 0) && ((arrIn t == 2) && true)))) = false) : (if mb = true then ("incompatible" : Str) else "not_a_variable") = dueC W mb t := by
  unfold dueC
  cases mb with
  | false => rfl
  | true =>
    rw [if_pos rfl, if_pos rfl]
    cases ho : isOpenS t with
    | false => rfl
    | true =>
      obtain ⟨c, k, rfl, hc⟩ := arr_open ho
      rw [arr_ta] at e
      have e : (decide (c < 0) && (((k : Int) == 2) && true)) = false := e
      rw [decide_eq_true hc, Bool.true_and, Bool.and_true] at e
      show _ = okStr (true && (W[k]?.any fun s => formOf s == "char"))
      cases hk : W[k]? with
      | none => rfl
      | some u =>
        show _ = okStr (true && (formOf u == "char"))
        cases hf : (formOf u == ("char" : Str)) with
        | false => rfl
        | true =>
          rw [form_char hf] at hk
          have := (hch k).mp hk
          subst this
          exact absurd e (by decide)
theorem dueC_yes {mb : Bool} {t : Sh} (hch : ∀ i, W[i]? = some .char ↔ i = 2) (e : (mb && ((tagOf t == ("arr" : Str)) && (decide (lenOf t < 0) && ((arrIn t == 2) && true)))) = true) : ("" : Str) = dueC W mb t := by
  obtain ⟨e1, e2⟩ := Bool.and_eq_true_iff.mp e
  obtain ⟨e3, e4⟩ := Bool.and_eq_true_iff.mp e2
  obtain ⟨e5, e6⟩ := Bool.and_eq_true_iff.mp e4
  obtain ⟨c, k, rfl⟩ := arr_tag e3
  have hk : (k : Int) = 2 := by rw [Bool.and_true] at e6; exact beq_iff_eq.mp e6
  have hk : k = 2 := by omega
  subst hk
  unfold dueC
  rw [if_pos e1]
  have op : isOpenS (.arr c 2) = true := Bool.and_eq_true_iff.mpr ⟨arr_fa, e5⟩
  rw [op]
  show _ = okStr (true && (W[2]?.any fun s => formOf s == "char"))
  rw [(hch 2).mpr rfl]; rfl
theorem dueN_of {mb : Bool} {way i j : Nat} {s t : Sh} (hw : way < 5) (hra : mb = true → (["rec", "arr"] : List Str).any (· == tagOf t) = true) :
    (if (!mb && (((way : Int) == 3) && true)) = true then ("not_a_variable" : Str) else if (!mb && (((way : Int) == 1) && true)) = true then "read_only" else okStr (if mb = true then lfit2 W i j s t else lfitW W i j s t)) = dueN W mb way i j s t := by
  unfold dueN
  cases mb with
  | true =>
    rw [if_neg (show ¬ (!true && (((way : Int) == 3) && true)) = true from Bool.false_ne_true), if_neg (show ¬ (!true && (((way : Int) == 1) && true)) = true from Bool.false_ne_true), if_pos rfl, if_pos rfl, struct_agree (hra rfl)]
  | false =>
    rw [if_neg Bool.false_ne_true, if_neg Bool.false_ne_true, fits_agree]
    have : way = 0 ∨ way = 1 ∨ way = 2 ∨ way = 3 ∨ way = 4 := by omega
    rcases this with rfl | rfl | rfl | rfl | rfl <;> rfl

section
variable {A : Around} {h₀ : Heap} {L : Addr} {r : Nat}
theorem law_rest {a : AH} {sd : Addr} {to spot mode way : Nat} {mb : Bool} {s t : Sh} {sh si : Addr} {R : AF → Rho → AH → Prop} {body : List Stmt}
    (hb : body = match flaw.body with | [_, _, .For _ _ b _ _, _] => b.drop 8 | _ => []) (hr : 110 ≤ r) (K : WOk G W D.rows ta num) (h6 : 7 ≤ W.length) (h24 : W.length ≤ 24) (hch : ∀ i, W[i]? = some .char ↔ i = 2) (hk : k ≤ 100)
    (rg : RegL D ρ) (I : LI w D W num G k H) (hs : W[spot]? = some s) (ht : W[to]? = some t) (rt : Row G D.rows to (ta (some to)) sh) (ot : ShOk G sh t) (rs : Row G D.rows spot (ta (some spot)) si) (os : ShOk G si s)
    (r5 : ρ 5 = some (.int to)) (r6 : ρ 6 = some (.int mode)) (hm : mode < 2) (hmb : ((mode : Int) == 1) = mb) (r7 : ρ 7 = some (.ref sh)) (r8 : ρ 8 = some (.ref sd)) (r9 : ρ 9 = some (.int way)) (hw : way < 6) (r10 : ρ 10 = some (.int spot))
    (S : Side H sd "par" mb (.ref (ta (some to)))) (nsd : a sd = none) (le : LeB (sd :: M3 D) a H) (la : LI w D W num G k a)
    (hra : mb = true → (["rec", "arr"] : List Str).any (· == tagOf t) = true) (fin : ∀ r h, RegL D r → LI w D W num G (k + 1) h → LeB (M3 D) a h → R .next r h) :
    Exs prg w (MK w.params) (flaw.cx A h₀ L r) ρ H body R := by
  subst hb
  show Exs _ _ _ _ _ _ (_ :: _) _
  have sdM : sd ∉ M3 D := la.fresh nsd
  have m0 : ((mode : Int) == 0) = !mb := by rw [mode_eq hm, hmb]
  refine exs_cons (ex_ifJ (ts_cmp (ev_local 9 rfl r9) ev_int rfl) (Due w D W num G a k sd) (fun e => ?_) (fun e => ?_) fun r' h q => ?_)
  · -- a text
    refine exs_cons (ex_assign (P := fun c H2 => ∃ v : Nat, c = .int (1 + (v : Int)) ∧ v < 5 ∧ LI w D W num G k H2 ∧ LeB (M3 D) H H2) 12 rfl (ev_binG (P1 := fun a h => a = .int 1 ∧ h = H) (ev_int.g ⟨rfl, rfl⟩) fun av H1 q => ?_) fun av H1 q => ?_)
    · rw [q.1, q.2]
      exact (ev_pickl (b := 5) 20 rfl I (.cons (ev_local 1 rfl rg.1) rfl (.cons ev_int rfl .nil)) (by decide) (by show 2 ≤ r; omega)).imp fun v H' q => let ⟨v, e, q⟩ := q; ⟨_, by rw [e]; rfl, v, rfl, q⟩
    obtain ⟨v, rfl, hv, I1, l1⟩ := q
    refine exs_cons (ex_assign 13 rfl (ev_Node5G (op := "const") (place := 0) (v := .str (PySem.Txt.mul "a" (1 + (v : Int) - 1))) 26 rfl ev_str ev_int (ev_strty I1 hk (ev_local 2 rfl rg.2.1) (.cons (ev_local 12 rfl rfl) rfl .nil) (by show 6 ≤ r; omega)) (fun _ => ev_amul ev_str (ev_bin (ev_local 12 rfl rfl) ev_int rfl) (by omega) (by omega)) (by show 2 ≤ r; omega)) fun av H3 q => ?_)
    obtain ⟨node, t', H2, rfl, ⟨y, nb, bs, pb, rfl, hy, ty, hn, l2, I2⟩, mn⟩ := q
    have I3 := I2.new mn.le
    have l03 : LeB (M3 D) H H3 := (l1.trans l2).trans (mn.le.more (by simp))
    have la3 : LeB (M3 D) a H3 := LeB.newer nsd (le.trans (l03.more fun b hb => List.mem_cons_of_mem _ hb))
    have K3 : WOk H3 W D.rows ta num := K.mono I3.gl
    obtain ⟨kids, nd, hkids⟩ := mn.nd
    have S3 := S.keep l03 sdM
    have fnc := c_pass_const (w := w) K3 hs ht S3.ob nd (ty.keep mn.le (by simp)).ty (hn (some to) (get_lt ht))
    have ot3 := ot.mono I3.gl
    refine exs_cons (ex_assignP 14 rfl (av := .str (if mb = true then "incompatible" else "not_a_variable")) (ev_ife (ts_cmp (ev_local 6 rfl r6) ev_int rfl) (fun q => ?_) (fun q => ?_)) ?_)
    · rw [m0] at q; rw [not_t q]; exact ev_str
    · rw [m0] at q; rw [not_f q]; exact ev_str
    refine exs_cons (ex_ifJ (c := mb && ((tagOf t == ("arr" : Str)) && (decide (lenOf t < 0) && ((arrIn t == 2) && true)))) (ts_and (b := mb) (hmb ▸ ts_cmp (ev_local 6 rfl r6) ev_int rfl) fun _ => ts_and (ts_cmp (ev_tag ot3 (ev_local 7 rfl r7)) ev_str rfl) fun q1 => ts_and (b := decide (lenOf t < 0)) ?_ fun _ => ts_and (b := arrIn t == 2) ?_ fun _ => ts_and0) (Due w D W num G a k sd) (fun e => ?_) (fun e => ?_) fun r' h q => exs_nil ⟨rfl, q⟩)
    · obtain ⟨c, k, rfl⟩ := arr_tag q1
      exact ts_cmp (ev_t1 ot3 (ev_local 7 rfl r7)) ev_int rfl
    · obtain ⟨c, k, rfl⟩ := arr_tag q1
      exact ts_cmp (ev_t2 ot3 (ev_local 7 rfl r7)) ev_int rfl
    · exact exs_cons (ex_assignP 14 rfl ev_str (exs_nil ⟨rfl, rg, r8, I3, la3, node, _, rfl, congrArg (fun z => some (AV.str z)) (dueC_yes hch e), fnc⟩))
    · exact exs_nil ⟨rfl, rg, r8, I3, la3, node, _, rfl, congrArg (fun z => some (AV.str z)) (dueC_no hch e), fnc⟩
  · -- a node
    have e : ((way : Int) == 5) = false := e
    have hw5 : way < 5 := by
      rw [beq_eq_false_iff_ne] at e; omega
    have K0 : WOk H W D.rows ta num := K.mono I.gl
    obtain ⟨s6, hs6⟩ : ∃ s, W[6]? = some s := ⟨_, List.getElem?_eq_getElem (by omega)⟩
    refine exs_cons (ex_assign 13 rfl (ev_callG (P1 := fun l h => l = [.ref D.pool, .ref D.rows, .int spot, .int way] ∧ h = H) 24 rfl g_law_node ((EvLP.cons (ev_local 1 rfl rg.1) rfl (.cons (ev_local 3 rfl rg.2.2) rfl (.cons (ev_local 10 rfl r10) rfl (.cons (ev_local 9 rfl r9) rfl .nil)))).l ⟨rfl, rfl⟩) (fun l h p => by rw [p.1, p.2]; exact c_node K0 hs hs6 hw5 D.pool) (by show 2 + 2 ≤ r; omega)) fun av H1 q => ?_)
    obtain ⟨node, rfl, l1, no⟩ := q
    have I1 := I.new l1
    have K1 : WOk H1 W D.rows ta num := K.mono I1.gl
    have ot1 := ot.mono I1.gl
    have rs1 := rs.mono I1.gl
    have os1 := os.mono I1.gl
    have la1 : LeB (M3 D) a H1 := LeB.newer nsd (le.trans (l1.more (by simp)))
    have S1 := S.keep l1 (by simp)
    have fnc := c_pass_node (w := w) K1 hs ht S1.ob no
    have fin2 : ∀ ρ' : Rho, RegL D ρ' → ρ' 8 = some (.ref sd) → ρ' 13 = some (.ref node) → ρ' 14 = some (.str (dueN W mb way spot to s t)) → Due w D W num G a k sd ρ' H1 := fun ρ' q1 q2 q3 q4 => ⟨q1, q2, I1.up, la1, node, _, q3, q4, fnc⟩
    refine exs_cons (ex_assignP 15 rfl (ev_call 27 rfl g_law_fits (.cons (ev_local 3 rfl rg.2.2) rfl (.cons (ev_local 5 rfl r5) rfl (.cons (ev_local 10 rfl r10) rfl .nil))) (c_lfi K1 hs ht) (by show 2 * W.length + 4 + 2 ≤ r; omega)) ?_)
    refine exs_cons (ex_ifJ (c := mb && ((tagOf t == ("arr" : Str)) && (decide (0 ≤ lenOf t) && ((!lfitW W spot to s t) && true)))) (ts_and (b := mb) (hmb ▸ ts_cmp (ev_local 6 rfl r6) ev_int rfl) fun _ => ts_and (ts_cmp (ev_tag ot1 (ev_local 7 rfl r7)) ev_str rfl) fun q1 => ts_and (b := decide (0 ≤ lenOf t)) ?_ fun _ => ts_and (ts_not (ts_name (ev_local 15 rfl rfl))) fun _ => ts_and0)
      (fun r' h => h = H1 ∧ RegL D r' ∧ r' 6 = some (.int mode) ∧ r' 8 = some (.ref sd) ∧ r' 9 = some (.int way) ∧ r' 13 = some (.ref node) ∧ r' 15 = some (.bool (if mb = true then lfit2 W spot to s t else lfitW W spot to s t))) (fun e => ?_) (fun e => ?_) fun r' h q => ?_)
    · obtain ⟨c, k, rfl⟩ := arr_tag q1
      exact ts_cmp (ev_t1 ot1 (ev_local 7 rfl r7)) ev_int rfl
    · obtain ⟨e1, e2⟩ := Bool.and_eq_true_iff.mp e
      obtain ⟨e3, e4⟩ := Bool.and_eq_true_iff.mp e2
      obtain ⟨e5, e6⟩ := Bool.and_eq_true_iff.mp e4
      rw [Bool.and_true] at e6
      obtain ⟨c, kk, rfl⟩ := arr_tag e3
      obtain ⟨v1, v2⟩ := inner_ok K1 ht
      refine exs_cons (ex_assignP 16 rfl (ev_row1 rs1 (ev_local 3 rfl rg.2.2) (ev_local 10 rfl r10)) ?_)
      refine exs_cons (ex_assignP 15 rfl (av := .bool ((tagOf s == ("arr" : Str)) && ((lenOf s == lenOf (.arr c kk)) && alikeF W W.length (innerOf (.arr c kk)) (innerOf s)))) (ev_and (ev_cmp (ev_tag os1 (ev_local 16 rfl rfl)) ev_str rfl) fun q2 => ev_and (b := lenOf s == lenOf (.arr c kk)) ?_ fun _ => ev_bo1 ?_) (exs_nil ⟨rfl, rfl, rg, r6, r8, r9, rfl, ?_⟩))
      · obtain ⟨c', k', rfl⟩ := arr_tag q2
        exact ev_cmp (ev_t1 os1 (ev_local 16 rfl rfl)) (ev_t1 ot1 (ev_local 7 rfl r7)) rfl
      · obtain ⟨c', k', rfl⟩ := arr_tag q2
        obtain ⟨v3, v4⟩ := inner_ok K1 hs
        exact ev_call 28 rfl g_law_alike (.cons (ev_local 3 rfl rg.2.2) rfl (.cons (ev_t2 ot1 (ev_local 7 rfl r7)) rfl (.cons (ev_t2 os1 (ev_local 16 rfl rfl)) rfl .nil))) (c_lal W.length H1 K1 (some kk) (some k') v1 v3 v2) (by show 2 * W.length + 2 ≤ r; omega)
      · refine congrArg (fun z => some (AV.bool z)) ?_
        rw [if_pos e1]
        unfold lfit2
        rw [if_pos (by rw [e3, e5, e6]; rfl)]
    · refine exs_nil ⟨rfl, rfl, rg, r6, r8, r9, rfl, congrArg (fun z => some (AV.bool z)) ?_⟩
      cases mb with
      | false => rfl
      | true =>
        rw [if_pos rfl]
        unfold lfit2
        rw [if_neg]
        rw [Bool.true_and, Bool.and_true] at e
        rw [e]; exact Bool.false_ne_true
    obtain ⟨rfl, rg, r6, r8, r9, r13, r15⟩ := q
    generalize hg : (if mb = true then lfit2 W spot to s t else lfitW W spot to s t) = g at r15
    refine exs_cons (ex_assignP 14 rfl (av := .str (okStr g)) (ev_ife (ts_name (ev_local 15 rfl r15)) (fun q => by rw [q]; exact ev_str) (fun q => by rw [q]; exact ev_str)) ?_)
    refine exs_cons (ex_ifJ (c := (!mb) && (((way : Int) == 1) && true)) (ts_and (b := !mb) (m0 ▸ ts_cmp (ev_local 6 rfl r6) ev_int rfl) fun _ => ts_and (ts_cmp (ev_local 9 rfl r9) ev_int rfl) fun _ => ts_and0)
      (fun r' h' => h' = h ∧ RegL D r' ∧ r' 6 = some (.int mode) ∧ r' 8 = some (.ref sd) ∧ r' 9 = some (.int way) ∧ r' 13 = some (.ref node) ∧ r' 14 = some (.str (if (!mb && (((way : Int) == 1) && true)) = true then "read_only" else okStr g))) (fun e => ?_) (fun e => ?_) fun r' h' q => ?_)
    · exact exs_cons (ex_assignP 14 rfl ev_str (exs_nil ⟨rfl, rfl, rg, r6, r8, r9, r13, congrArg (fun z => some (AV.str z)) (if_pos e).symm⟩))
    · exact exs_nil ⟨rfl, rfl, rg, r6, r8, r9, r13, congrArg (fun z => some (AV.str z)) (if_neg (by rw [e]; exact Bool.false_ne_true)).symm⟩
    obtain ⟨rfl, rg, r6, r8, r9, r13, r14⟩ := q
    have dn := dueN_of (W := W) (i := spot) (j := to) (s := s) hw5 hra
    rw [hg] at dn
    refine exs_cons (ex_ifJ (c := (!mb) && (((way : Int) == 3) && true)) (ts_and (b := !mb) (m0 ▸ ts_cmp (ev_local 6 rfl r6) ev_int rfl) fun _ => ts_and (ts_cmp (ev_local 9 rfl r9) ev_int rfl) fun _ => ts_and0)
      (Due w D W num G a k sd) (fun e => ?_) (fun e => ?_) fun r' h' q => exs_nil ⟨rfl, q⟩)
    · exact exs_cons (ex_assignP 14 rfl ev_str (exs_nil ⟨rfl, fin2 _ rg r8 r13 (by rw [← dn, if_pos e]; rfl)⟩))
    · exact exs_nil ⟨rfl, fin2 _ rg r8 r13 (by rw [← dn, if_neg (by rw [e]; exact Bool.false_ne_true)]; exact r14)⟩
  · obtain ⟨node, due, r13, r14, fnc⟩ := q.fn
    refine exs_cons (ex_if (c := false) (ts_cmp (ev_call 23 rfl g_passable (.cons (ev_local 8 rfl q.r8) rfl (.cons (ev_local 13 rfl r13) rfl .nil)) fnc (by show 4 * W.length + 8 + 2 ≤ r; omega)) (ev_local 14 rfl r14) (by show some (due != due) = _; simp)) (fun q => by cases q) (fun _ => exs_nil (exs_nil (fin _ _ q.rg q.li q.le))))
end
end Mine
namespace Mine
variable {w : World} {H H' G G' : AH} {C : Cx} {ρ : Rho} {W : List Sh} {ta : Option Nat → Addr} {num : Option Nat → Int} {D : Ad} {k : Nat} {rs : List Addr} {S S' : List Addr} {n : Int} {m : Nat} {hl : List AV}

theorem LI.start {tn : Addr} (M : Mut w D tn n m (rs.map .ref) hl H) (P : Part (H.stat D.M) W ta num rs S n) (hm : m ≤ 100) (e1 : ∀ a, ¬ a ∈ S → H' a = H a) (e3 : ∀ a o, (∀ xs, o ≠ .list xs) → H a = some o → H' a = some o) : LI w D W num (H'.del (M3 D)) 0 H' := by
  have nS : ∀ z ∈ D.M, H' z = H z := fun z hz => e1 z fun q => P.live z q (by unfold AH.stat; rw [if_pos hz])
  obtain ⟨fs, xc, T, a, b⟩ := M.ts
  obtain ⟨o, e⟩ := T.kn.dic
  obtain ⟨fl, i, mix, p1, p2, p3⟩ := M.pool.at_
  have mt : D.t ∈ D.M := by simp [Ad.M]
  have mk : D.kd ∈ D.M := by simp [Ad.M]
  have mp : D.pool ∈ D.M := by simp [Ad.M]
  have mf : D.figs ∈ D.M := by simp [Ad.M]
  refine ⟨⟨fs, n, m, xc, ⟨(nS _ mt).trans T.self, T.cnt, T.kno, T.kn.mono (nS _ mk) (fun b xs q => e3 b _ (fun _ q => by cases q) q), T.len, T.no1, T.no2⟩, b, hm, P.le⟩, ⟨fl, i, mix, (nS _ mp).trans p1, (nS _ mf).trans p2, p3⟩, Le.del, fun z hz => ?_, M.nd⟩
  unfold AH.del; rw [if_pos hz]

section
variable {A : Around} {h₀ : Heap} {L : Addr} {r : Nat}
theorem law_turn {a : AH} {i : Nat} {R : AF → Rho → AH → Prop} {body : List Stmt}
    (hb : body = match flaw.body with | [_, _, .For _ _ b _ _, _] => b | _ => []) (hr : 110 ≤ r) (K : WOk G W D.rows ta num) (h6 : 7 ≤ W.length) (h24 : W.length ≤ 24) (hch : ∀ i, W[i]? = some .char ↔ i = 2) (hk : k ≤ 100)
    (rg : RegL D ρ) (r4 : ρ 4 = some (.int i)) (I : LI w D W num G k a) (fin : ∀ r h, RegL D r → LI w D W num G (k + 1) h → LeB (M3 D) a h → R .next r h ∧ R .cont r h) :
    Exs prg w (MK w.params) (flaw.cx A h₀ L r) ρ a body R := by
  subst hb
  show Exs _ _ _ _ _ _ (_ :: _) _
  refine exs_cons (ex_assign 5 rfl (ev_pickl (b := W.length) 20 rfl I (.cons (ev_local 1 rfl rg.1) rfl (.cons (ev_lenk (K.mono I.gl) 21 rfl (ev_local 3 rfl rg.2.2)) rfl .nil)) (by omega) (by show 2 ≤ r; omega)) fun av H1 q => ?_)
  obtain ⟨to, rfl, hto, I1, l1⟩ := q
  obtain ⟨t, ht⟩ : ∃ t, W[to]? = some t := ⟨_, List.getElem?_eq_getElem hto⟩
  obtain ⟨sh, rt, ot⟩ := K.row ht
  refine exs_cons (ex_assign 6 rfl (ev_pickl (b := 2) 20 rfl I1 (.cons (ev_local 1 rfl rg.1) rfl (.cons ev_int rfl .nil)) (by omega) (by show 2 ≤ r; omega)) fun av H2 q => ?_)
  obtain ⟨mode, rfl, hmode, I2, l2⟩ := q
  refine exs_cons (ex_assignP 7 rfl (ev_row1 (rt.mono I2.gl) (ev_local 3 rfl rg.2.2) (ev_local 5 rfl rfl)) ?_)
  refine exs_cons (ex_assign 8 rfl (ev_Obj (name := "x") (kind := "par") (t := .ref (ta (some to))) (place := 0) 22 rfl (.cons ev_str rfl (.cons ev_str rfl (.cons (ev_row0 (rt.mono I2.gl) (ev_local 3 rfl rg.2.2) (ev_local 5 rfl rfl)) rfl (.cons ev_int rfl .nil)))) (by show 2 ≤ r; omega)) fun av H3 q => ?_)
  obtain ⟨sd, rfl, m3⟩ := q
  have I3 := I2.new m3.le
  have l02 := l1.trans l2
  have sdM : sd ∉ M3 D := I2.fresh m3.new
  have nsd : a sd = none := l02.back sdM m3.new
  have S3 : Side H3 sd "par" false (.ref (ta (some to))) := let ⟨d, fs, h1, h2, h3, h4, h5⟩ := m3.at_; ⟨d, fs, h1, h2, h3, h4, by omega⟩
  refine exs_cons (ex_setro (b := ((mode : Int) == 1)) S3 (ev_local 8 rfl rfl) (ev_cmp (ev_local 6 rfl rfl) ev_int rfl) fun H4 S4 l4 => ?_)
  have I4 := I3.keepS l4 sdM (I.none nsd) S3.inst
  generalize hmb : ((mode : Int) == 1) = mb at S4
  refine exs_cons (ex_assign 9 rfl (ev_pickl (b := 6) 20 rfl I4 (.cons (ev_local 1 rfl rg.1) rfl (.cons ev_int rfl .nil)) (by omega) (by show 2 ≤ r; omega)) fun av H5 q => ?_)
  obtain ⟨way, rfl, hway, I5, l5⟩ := q
  refine exs_cons (ex_assign (P := fun c h => ∃ v : Nat, c = .int v ∧ v < W.length ∧ LI w D W num G k h ∧ LeB (M3 D) H5 h) 10 rfl (ev_ifeG (ts_cmp (ev_bin (ev_local 4 rfl r4) ev_int rfl) ev_int rfl) (fun _ => (ev_local 5 rfl rfl).g ⟨to, rfl, hto, I5, LeB.refl⟩) (fun _ => ev_pickl (b := W.length) 20 rfl I5 (.cons (ev_local 1 rfl rg.1) rfl (.cons (ev_lenk (K.mono I5.gl) 21 rfl (ev_local 3 rfl rg.2.2)) rfl .nil)) (by omega) (by show 2 ≤ r; omega))) fun av H6 q => ?_)
  obtain ⟨spot, rfl, hspot, I6, l6⟩ := q
  obtain ⟨s, hs⟩ : ∃ s, W[spot]? = some s := ⟨_, List.getElem?_eq_getElem hspot⟩
  obtain ⟨si, rsp, os⟩ := K.row hs
  have S6 := (S4.keep l5 sdM).keep l6 sdM
  have l06 : LeB (sd :: M3 D) a H6 := (((l02.trans (m3.le.more (by simp))).more fun b hb => List.mem_cons_of_mem _ hb).trans (l4.more (by simp))).trans ((l5.trans l6).more fun b hb => List.mem_cons_of_mem _ hb)
  have ot6 := ot.mono I6.gl
  refine exs_cons (ex_if (c := mb && ((!(["rec", "arr"] : List Str).any (· == tagOf t)) && true)) (ts_and (b := mb) (hmb ▸ ts_cmp (ev_local 6 rfl rfl) ev_int rfl) fun _ => ts_and (ts_notin ["rec", "arr"] (ev_tag ot6 (ev_local 7 rfl rfl)) (.cons ev_str rfl (.cons ev_str rfl .nil))) fun _ => ts_and0) (fun e => ?_) (fun e => exs_nil ?_))
  · obtain ⟨e1, e2⟩ := Bool.and_eq_true_iff.mp e
    rw [Bool.and_true] at e2
    rw [e1] at S6
    exact law_plain rfl hr K h6 h24 rg I6 hs ht rt ot rsp os rfl rfl rfl rfl S6 nsd l06 I e2 fun r h q1 q2 q3 => (fin r h q1 q2 q3).2
  · refine law_rest rfl hr K h6 h24 hch hk rg I6 hs ht rt ot rsp os rfl rfl hmode hmb rfl rfl rfl hway rfl S6 nsd l06 I (fun q => ?_) fun r h q1 q2 q3 => (fin r h q1 q2 q3).1
    rw [q, Bool.true_and, Bool.and_true] at e
    exact not_f e
end

theorem b_law : ∀ vs : List Value, vs.length = 1 → bindArgs flaw.fd ⟨vs, []⟩ = pure (((flaw.scope.names.take 1).map (·.1)).zip vs) | [a], _ => by kernel_rfl
theorem k_law {P : Params} : FI.Ok (MK P) flaw where
  look := ⟨.type "function", none, #[], by kernel_rfl⟩
  code := by kernel_rfl
  names := by kernel_rfl
  kind := by kernel_rfl
  co := by kernel_rfl
  gen := by kernel_rfl
  cell := by kernel_rfl
theorem law_body {l : Addr} {vs : List Value} {ns : List Int} (hi : IntsAre vs ns) (hz : ns.length ≤ 1048576) (A : Around) (h₀ : Heap) (L : Addr) (r : Nat) (hl : h₀.IsList l vs.toArray) (hr : 112 ≤ r) :
    Exs prg w (MK w.params) (flaw.cx A h₀ L r) (fun i => [AV.ref l][i]?) H flaw.body (fun f _ H' => FnR (fun r H' => r = .bool true) f H') := by
  show Exs _ _ _ _ _ _ (_ :: _) _
  refine exs_cons (ex_assign 1 rfl (ev_callZ (P1 := fun as h => as = [.ref l] ∧ h = H) 17 rfl g_law_pool ((EvLP.cons (ev_local 0 rfl rfl) rfl .nil).l ⟨rfl, rfl⟩) (fun avs H1 p => by rw [p.1, p.2]; exact c_pool hi hz) hl (by show 0 + 2 ≤ r; omega)) fun av H1 q => ?_)
  obtain ⟨pool, figs, rfl, hp, hf, pf, po, l1⟩ := q
  refine exs_cons (ex_unpack 2 3 rfl rfl (ev_callG (P1 := fun as h => as = [.ref pool] ∧ h = H1) 18 rfl g_law_world ((EvLP.cons (ev_local 1 rfl rfl) rfl .nil).l ⟨rfl, rfl⟩) (fun avs H2 p => by rw [p.1, p.2]; exact c_world po) (by show 6 + 2 ≤ r; omega)) fun av H2 q => ?_)
  obtain ⟨tp, D, W, hs, rfl, htp, rfl, I, h7, h24⟩ := q
  refine ⟨tp, _, _, rfl, htp, ?_⟩
  obtain ⟨ta, num, rs, S, n, m, M, P, hm⟩ := I.at_
  refine exs_freeze (· ∈ S) fun H3 e1 e2 e3 => ?_
  have K : WOk (H3.del (M3 D)) W D.rows ta num := P.wok M (by omega) e1 e2 e3
  have I3 : LI w D W num (H3.del (M3 D)) 0 H3 := LI.start M P (by omega) e1 e3
  generalize H3.del (M3 D) = G at K I3
  refine exs_cons (ex_for (G := fun m Pi H0 => (m = 12 ∧ H0 = H3) ∧ Pi = fun i a => a = .int i) 4 rfl (it_range 19 rfl b_range (ev_int.g ⟨12, rfl, by decide, rfl, rfl⟩)) ?_)
  rintro j Pi H0 ⟨⟨rfl, rfl⟩, rfl⟩
  refine ⟨fun k r a => RegL D r ∧ LI w D W num G k a, ⟨⟨rfl, rfl, rfl⟩, I3⟩, ?_, ?_, ?_⟩
  · rintro i r a b lo ⟨q1, q2⟩
    exact ⟨q1, q2.loc I3.gl lo⟩
  · rintro i ρ a av hi rfl ⟨rg, I⟩
    exact law_turn rfl (by omega) K h7 h24 P.char (by omega) rg rfl I fun r h q1 q2 q3 => ⟨⟨⟨q1, q2⟩, I.kr q3⟩, ⟨q1, q2⟩, I.kr q3⟩
  · rintro ρ a ⟨rg, I⟩
    exact exs_cons (ex_ret ev_bool rfl)
end Mine
namespace Mine

noncomputable def FI.tpl (x : FI) : Obj := ⟨.none, none, .func { name := x.name, qualname := x.qual, params := x.params, body := .stmts x.body, scope := x.scope, globals := 0, closure := [], defaults := .none, kwdefaults := .none }, #[]⟩
noncomputable def o11 (P : Params) : Obj := ⟨(.type "tuple"), none, (.seq ⟨[]⟩ 0), #[]⟩
noncomputable def o13 (P : Params) : Obj := ⟨(.type "code"), none, (.fields ⟨[(.str "<module>" 182), (.str "<module>" 183), (.str "/claim/cut.py" 184), (.int 1 0), (.int 0 0), (.int 0 0), (.int 0 0), (.int 0 0), (.ref 11), (.bool false), (.int 181 0), (.ref 12), .none, .none, .none, .none, (.int 185 0), (.int 1 0), (.str "/claim/cut.py" 186)]⟩), #[]⟩
noncomputable def o14 (P : Params) : Obj := ⟨(.type "frame"), none, .plain, ⟨[some (.ref 13), some (.ref 3), some (.ref 3), none, some (.str "__main__" 164), none, some (.ref 0)]⟩⟩
noncomputable def o15 (P : Params) : Obj := ⟨(.type "tuple"), none, (.seq ⟨[]⟩ 0), #[]⟩
noncomputable def o16 (P : Params) : Obj := ⟨(.type "builtin_function_or_method"), none, (.fields ⟨[(.builtin "type.__prepare__"), (.type "type")]⟩), #[]⟩
noncomputable def o17 (P : Params) : Obj := ⟨(.type "dict"), none, (.dict ⟨[eO P "__module__" 196 (.str "moduleyard.trees" 187), eO P "__qualname__" 198 (.str "Node" 197), eO P "__firstlineno__" 200 (.int 2 199), eO P "__init__" 212 (.ref 29), eO P "__static_attributes__" 219 (.ref 30)]⟩ 5), #[]⟩
noncomputable def o18 (P : Params) : Obj := ⟨(.type "tuple"), none, (.seq ⟨[]⟩ 0), #[]⟩
noncomputable def o19 (P : Params) : Obj := ⟨.none, none, (.fields ⟨[(.int 4 0), (.int 4 0), (.ref 28)]⟩), #[]⟩
noncomputable def o20 (P : Params) : Obj := ⟨(.type "code"), none, (.fields ⟨[(.str "Node" 191), (.str "Node" 192), (.str "/claim/cut.py" 193), (.int 2 0), (.int 0 0), (.int 0 0), (.int 0 0), (.int 0 0), (.ref 18), (.bool false), (.int 181 0), (.ref 19), .none, .none, .none, .none, (.int 194 0), (.int 2 0), (.str "/claim/cut.py" 195)]⟩), #[]⟩
noncomputable def o21 (P : Params) : Obj := ⟨(.type "frame"), none, .plain, ⟨[some (.ref 20), some (.ref 3), some (.ref 17), none, some (.str "moduleyard.trees" 187), none, some (.ref 0)]⟩⟩
noncomputable def o22 (P : Params) : Obj := ⟨(.type "tuple"), none, (.seq ⟨[.none]⟩ 0), #[]⟩
noncomputable def o23 (P : Params) : Obj := ⟨(.type "tuple"), none, (.seq ⟨[]⟩ 0), #[]⟩
noncomputable def o24 (P : Params) : Obj := ⟨.none, none, (.fields ⟨[]⟩), #[]⟩
noncomputable def o25 (P : Params) : Obj := ⟨(.type "tuple"), none, (.seq ⟨[(.str "self" 204), (.str "op" 205), (.str "place" 206), (.str "type_of" 207), (.str "kids" 208), (.str "value" 209)]⟩ 0), #[]⟩
noncomputable def o26 (P : Params) : Obj := ⟨(.type "tuple"), none, (.seq ⟨[]⟩ 0), #[]⟩
noncomputable def o27 (P : Params) : Obj := fNode_init.tpl
noncomputable def o28 (P : Params) : Obj := ⟨(.type "code"), none, (.fields ⟨[(.str "__init__" 201), (.str "Node.__init__" 202), (.str "/claim/cut.py" 203), (.int 4 0), (.int 6 0), (.int 0 0), (.int 0 0), (.int 3 0), (.ref 23), (.bool true), (.int 181 0), (.ref 24), .none, (.ref 25), (.ref 26), (.ref 27), (.int 210 0), (.int 4 0), (.str "/claim/cut.py" 211)]⟩), #[]⟩
noncomputable def o29 (P : Params) : Obj := fNode_init.ob
noncomputable def o30 (P : Params) : Obj := ⟨(.type "tuple"), none, (.seq ⟨[(.str "kids" 213), (.str "op" 214), (.str "place" 215), (.str "sure" 216), (.str "type" 217), (.str "value" 218)]⟩ 0), #[]⟩
noncomputable def o31 (P : Params) : Obj := ⟨(.type "dict"), none, (.dict ⟨[eO P "__module__" 196 (.str "moduleyard.trees" 187), eO P "__firstlineno__" 200 (.int 2 199), eO P "__init__" 212 (.ref 29), eO P "__static_attributes__" 219 (.ref 30), eO P "__dict__" 221 (.ref 33), eO P "__weakref__" 223 (.ref 34), eO P "__doc__" 224 .none]⟩ 4), #[]⟩
noncomputable def o32 (P : Params) : Obj := ⟨(.type "type"), none, (.cls { name := "Node", bases := [(.type "object")], mro := [(.ref 32), (.type "object")], ns := 31, qualname := "Node", hasDict := true, slotNames := [], subclasses := [], abstract := false, collection := none, hasDel := false }), ⟨[none, none, some (.str "Node" 189), some (.str "Node" 197), some (.builtin "object.__new__"), some (.bool true)]⟩⟩
noncomputable def o33 (P : Params) : Obj := ⟨(.type "getset_descriptor"), none, (.fields ⟨[(.str "__dict__" 220), (.ref 32), (.builtin "function.__dict__"), (.builtin "function.__dict__#set")]⟩), #[]⟩
noncomputable def o34 (P : Params) : Obj := ⟨(.type "getset_descriptor"), none, (.fields ⟨[(.str "__weakref__" 222), (.ref 32), (.builtin "ExceptionGroup.__weakref__"), .none]⟩), #[]⟩
noncomputable def o35 (P : Params) : Obj := ⟨(.type "super"), none, (.fields ⟨[(.ref 32), (.ref 32), (.ref 32)]⟩), #[]⟩
noncomputable def o36 (P : Params) : Obj := ⟨(.type "builtin_function_or_method"), none, (.fields ⟨[(.builtin "object.__init_subclass__"), (.ref 32)]⟩), #[]⟩
noncomputable def o37 (P : Params) : Obj := ⟨(.type "tuple"), none, (.seq ⟨[]⟩ 0), #[]⟩
noncomputable def o38 (P : Params) : Obj := ⟨.none, none, (.fields ⟨[]⟩), #[]⟩
noncomputable def o39 (P : Params) : Obj := ⟨(.type "tuple"), none, (.seq ⟨[(.str "node" 230)]⟩ 0), #[]⟩
noncomputable def o40 (P : Params) : Obj := ⟨(.type "tuple"), none, (.seq ⟨[]⟩ 0), #[]⟩
noncomputable def o41 (P : Params) : Obj := fis_designator.tpl
noncomputable def o42 (P : Params) : Obj := ⟨(.type "code"), none, (.fields ⟨[(.str "is_designator" 227), (.str "is_designator" 228), (.str "/claim/cut.py" 229), (.int 11 0), (.int 1 0), (.int 0 0), (.int 0 0), (.int 3 0), (.ref 37), (.bool true), (.int 181 0), (.ref 38), .none, (.ref 39), (.ref 40), (.ref 41), (.int 231 0), (.int 11 0), (.str "/claim/cut.py" 232)]⟩), #[]⟩
noncomputable def o43 (P : Params) : Obj := fis_designator.ob
noncomputable def o44 (P : Params) : Obj := ⟨(.type "tuple"), none, (.seq ⟨[]⟩ 0), #[]⟩
noncomputable def o45 (P : Params) : Obj := ⟨.none, none, (.fields ⟨[]⟩), #[]⟩
noncomputable def o46 (P : Params) : Obj := ⟨(.type "tuple"), none, (.seq ⟨[(.str "node" 237)]⟩ 0), #[]⟩
noncomputable def o47 (P : Params) : Obj := ⟨(.type "tuple"), none, (.seq ⟨[]⟩ 0), #[]⟩
noncomputable def o48 (P : Params) : Obj := froot_var.tpl
noncomputable def o49 (P : Params) : Obj := ⟨(.type "code"), none, (.fields ⟨[(.str "root_var" 234), (.str "root_var" 235), (.str "/claim/cut.py" 236), (.int 15 0), (.int 1 0), (.int 0 0), (.int 0 0), (.int 3 0), (.ref 44), (.bool true), (.int 181 0), (.ref 45), .none, (.ref 46), (.ref 47), (.ref 48), (.int 238 0), (.int 15 0), (.str "/claim/cut.py" 239)]⟩), #[]⟩
noncomputable def o50 (P : Params) : Obj := froot_var.ob
noncomputable def o51 (P : Params) : Obj := ⟨(.type "tuple"), none, (.seq ⟨[]⟩ 0), #[]⟩
noncomputable def o52 (P : Params) : Obj := ⟨.none, none, (.fields ⟨[]⟩), #[]⟩
noncomputable def o53 (P : Params) : Obj := ⟨(.type "tuple"), none, (.seq ⟨[(.str "node" 244), (.str "root" 245)]⟩ 0), #[]⟩
noncomputable def o54 (P : Params) : Obj := ⟨(.type "tuple"), none, (.seq ⟨[]⟩ 0), #[]⟩
noncomputable def o55 (P : Params) : Obj := fis_readonly.tpl
noncomputable def o56 (P : Params) : Obj := ⟨(.type "code"), none, (.fields ⟨[(.str "is_readonly" 241), (.str "is_readonly" 242), (.str "/claim/cut.py" 243), (.int 21 0), (.int 1 0), (.int 0 0), (.int 0 0), (.int 3 0), (.ref 51), (.bool true), (.int 181 0), (.ref 52), .none, (.ref 53), (.ref 54), (.ref 55), (.int 246 0), (.int 21 0), (.str "/claim/cut.py" 247)]⟩), #[]⟩
noncomputable def o57 (P : Params) : Obj := fis_readonly.ob
noncomputable def o58 (P : Params) : Obj := ⟨(.type "tuple"), none, (.seq ⟨[]⟩ 0), #[]⟩
noncomputable def o59 (P : Params) : Obj := ⟨.none, none, (.fields ⟨[]⟩), #[]⟩
noncomputable def o60 (P : Params) : Obj := ⟨(.type "tuple"), none, (.seq ⟨[(.str "a" 254), (.str "b" 255)]⟩ 0), #[]⟩
noncomputable def o61 (P : Params) : Obj := ⟨(.type "tuple"), none, (.seq ⟨[]⟩ 0), #[]⟩
noncomputable def o62 (P : Params) : Obj := fsame_type.tpl
noncomputable def o63 (P : Params) : Obj := ⟨(.type "code"), none, (.fields ⟨[(.str "same_type" 251), (.str "same_type" 252), (.str "/claim/cut.py" 253), (.int 25 0), (.int 2 0), (.int 0 0), (.int 0 0), (.int 3 0), (.ref 58), (.bool true), (.int 181 0), (.ref 59), .none, (.ref 60), (.ref 61), (.ref 62), (.int 256 0), (.int 25 0), (.str "/claim/cut.py" 257)]⟩), #[]⟩
noncomputable def o64 (P : Params) : Obj := fsame_type.ob
noncomputable def o65 (P : Params) : Obj := ⟨(.type "tuple"), none, (.seq ⟨[]⟩ 0), #[]⟩
noncomputable def o66 (P : Params) : Obj := ⟨.none, none, (.fields ⟨[]⟩), #[]⟩
noncomputable def o67 (P : Params) : Obj := ⟨(.type "tuple"), none, (.seq ⟨[(.str "t" 262)]⟩ 0), #[]⟩
noncomputable def o68 (P : Params) : Obj := ⟨(.type "tuple"), none, (.seq ⟨[]⟩ 0), #[]⟩
noncomputable def o69 (P : Params) : Obj := fis_integer.tpl
noncomputable def o70 (P : Params) : Obj := ⟨(.type "code"), none, (.fields ⟨[(.str "is_integer" 259), (.str "is_integer" 260), (.str "/claim/cut.py" 261), (.int 27 0), (.int 1 0), (.int 0 0), (.int 0 0), (.int 3 0), (.ref 65), (.bool true), (.int 181 0), (.ref 66), .none, (.ref 67), (.ref 68), (.ref 69), (.int 263 0), (.int 27 0), (.str "/claim/cut.py" 264)]⟩), #[]⟩
noncomputable def o71 (P : Params) : Obj := fis_integer.ob
noncomputable def o72 (P : Params) : Obj := ⟨(.type "tuple"), none, (.seq ⟨[]⟩ 0), #[]⟩
noncomputable def o73 (P : Params) : Obj := ⟨.none, none, (.fields ⟨[]⟩), #[]⟩
noncomputable def o74 (P : Params) : Obj := ⟨(.type "tuple"), none, (.seq ⟨[(.str "t" 269)]⟩ 0), #[]⟩
noncomputable def o75 (P : Params) : Obj := ⟨(.type "tuple"), none, (.seq ⟨[]⟩ 0), #[]⟩
noncomputable def o76 (P : Params) : Obj := fis_text.tpl
noncomputable def o77 (P : Params) : Obj := ⟨(.type "code"), none, (.fields ⟨[(.str "is_text" 266), (.str "is_text" 267), (.str "/claim/cut.py" 268), (.int 29 0), (.int 1 0), (.int 0 0), (.int 0 0), (.int 3 0), (.ref 72), (.bool true), (.int 181 0), (.ref 73), .none, (.ref 74), (.ref 75), (.ref 76), (.int 270 0), (.int 29 0), (.str "/claim/cut.py" 271)]⟩), #[]⟩
noncomputable def o78 (P : Params) : Obj := fis_text.ob
noncomputable def o79 (P : Params) : Obj := ⟨(.type "tuple"), none, (.seq ⟨[]⟩ 0), #[]⟩
noncomputable def o80 (P : Params) : Obj := ⟨.none, none, (.fields ⟨[]⟩), #[]⟩
noncomputable def o81 (P : Params) : Obj := ⟨(.type "tuple"), none, (.seq ⟨[(.str "t" 276)]⟩ 0), #[]⟩
noncomputable def o82 (P : Params) : Obj := ⟨(.type "tuple"), none, (.seq ⟨[]⟩ 0), #[]⟩
noncomputable def o83 (P : Params) : Obj := fis_open.tpl
noncomputable def o84 (P : Params) : Obj := ⟨(.type "code"), none, (.fields ⟨[(.str "is_open" 273), (.str "is_open" 274), (.str "/claim/cut.py" 275), (.int 31 0), (.int 1 0), (.int 0 0), (.int 0 0), (.int 3 0), (.ref 79), (.bool true), (.int 181 0), (.ref 80), .none, (.ref 81), (.ref 82), (.ref 83), (.int 277 0), (.int 31 0), (.str "/claim/cut.py" 278)]⟩), #[]⟩
noncomputable def o85 (P : Params) : Obj := fis_open.ob
noncomputable def o86 (P : Params) : Obj := ⟨(.type "tuple"), none, (.seq ⟨[]⟩ 0), #[]⟩
noncomputable def o87 (P : Params) : Obj := ⟨.none, none, (.fields ⟨[]⟩), #[]⟩
noncomputable def o88 (P : Params) : Obj := ⟨(.type "tuple"), none, (.seq ⟨[(.str "t" 283)]⟩ 0), #[]⟩
noncomputable def o89 (P : Params) : Obj := ⟨(.type "tuple"), none, (.seq ⟨[]⟩ 0), #[]⟩
noncomputable def o90 (P : Params) : Obj := frecord_of.tpl
noncomputable def o91 (P : Params) : Obj := ⟨(.type "code"), none, (.fields ⟨[(.str "record_of" 280), (.str "record_of" 281), (.str "/claim/cut.py" 282), (.int 33 0), (.int 1 0), (.int 0 0), (.int 0 0), (.int 3 0), (.ref 86), (.bool true), (.int 181 0), (.ref 87), .none, (.ref 88), (.ref 89), (.ref 90), (.int 284 0), (.int 33 0), (.str "/claim/cut.py" 285)]⟩), #[]⟩
noncomputable def o92 (P : Params) : Obj := frecord_of.ob
noncomputable def o93 (P : Params) : Obj := ⟨(.type "tuple"), none, (.seq ⟨[]⟩ 0), #[]⟩
noncomputable def o94 (P : Params) : Obj := ⟨.none, none, (.fields ⟨[]⟩), #[]⟩
noncomputable def o95 (P : Params) : Obj := ⟨(.type "tuple"), none, (.seq ⟨[(.str "a" 290), (.str "b" 291), (.str "one" 292), (.str "wanted" 293)]⟩ 0), #[]⟩
noncomputable def o96 (P : Params) : Obj := ⟨(.type "tuple"), none, (.seq ⟨[]⟩ 0), #[]⟩
noncomputable def o97 (P : Params) : Obj := fextends.tpl
noncomputable def o98 (P : Params) : Obj := ⟨(.type "code"), none, (.fields ⟨[(.str "extends" 287), (.str "extends" 288), (.str "/claim/cut.py" 289), (.int 39 0), (.int 2 0), (.int 0 0), (.int 0 0), (.int 3 0), (.ref 93), (.bool true), (.int 181 0), (.ref 94), .none, (.ref 95), (.ref 96), (.ref 97), (.int 294 0), (.int 39 0), (.str "/claim/cut.py" 295)]⟩), #[]⟩
noncomputable def o99 (P : Params) : Obj := fextends.ob
noncomputable def o100 (P : Params) : Obj := ⟨(.type "tuple"), none, (.seq ⟨[]⟩ 0), #[]⟩
noncomputable def o101 (P : Params) : Obj := ⟨.none, none, (.fields ⟨[]⟩), #[]⟩
noncomputable def o102 (P : Params) : Obj := ⟨(.type "tuple"), none, (.seq ⟨[(.str "a" 300), (.str "b" 301)]⟩ 0), #[]⟩
noncomputable def o103 (P : Params) : Obj := ⟨(.type "tuple"), none, (.seq ⟨[]⟩ 0), #[]⟩
noncomputable def o104 (P : Params) : Obj := fequal_types.tpl
noncomputable def o105 (P : Params) : Obj := ⟨(.type "code"), none, (.fields ⟨[(.str "equal_types" 297), (.str "equal_types" 298), (.str "/claim/cut.py" 299), (.int 51 0), (.int 2 0), (.int 0 0), (.int 0 0), (.int 3 0), (.ref 100), (.bool true), (.int 181 0), (.ref 101), .none, (.ref 102), (.ref 103), (.ref 104), (.int 302 0), (.int 51 0), (.str "/claim/cut.py" 303)]⟩), #[]⟩
noncomputable def o106 (P : Params) : Obj := fequal_types.ob
noncomputable def o107 (P : Params) : Obj := ⟨(.type "tuple"), none, (.seq ⟨[]⟩ 0), #[]⟩
noncomputable def o108 (P : Params) : Obj := ⟨.none, none, (.fields ⟨[]⟩), #[]⟩
noncomputable def o109 (P : Params) : Obj := ⟨(.type "tuple"), none, (.seq ⟨[(.str "a" 308), (.str "b" 309), (.str "place" 310), (.str "one" 311), (.str "other" 312)]⟩ 0), #[]⟩
noncomputable def o110 (P : Params) : Obj := ⟨(.type "tuple"), none, (.seq ⟨[]⟩ 0), #[]⟩
noncomputable def o111 (P : Params) : Obj := fequal_procs.tpl
noncomputable def o112 (P : Params) : Obj := ⟨(.type "code"), none, (.fields ⟨[(.str "equal_procs" 305), (.str "equal_procs" 306), (.str "/claim/cut.py" 307), (.int 59 0), (.int 2 0), (.int 0 0), (.int 0 0), (.int 3 0), (.ref 107), (.bool true), (.int 181 0), (.ref 108), .none, (.ref 109), (.ref 110), (.ref 111), (.int 313 0), (.int 59 0), (.str "/claim/cut.py" 314)]⟩), #[]⟩
noncomputable def o113 (P : Params) : Obj := fequal_procs.ob
noncomputable def o114 (P : Params) : Obj := ⟨(.type "tuple"), none, (.seq ⟨[]⟩ 0), #[]⟩
noncomputable def o115 (P : Params) : Obj := ⟨.none, none, (.fields ⟨[]⟩), #[]⟩
noncomputable def o116 (P : Params) : Obj := ⟨(.type "tuple"), none, (.seq ⟨[(.str "a" 319), (.str "b" 320)]⟩ 0), #[]⟩
noncomputable def o117 (P : Params) : Obj := ⟨(.type "tuple"), none, (.seq ⟨[]⟩ 0), #[]⟩
noncomputable def o118 (P : Params) : Obj := fequal_arrays.tpl
noncomputable def o119 (P : Params) : Obj := ⟨(.type "code"), none, (.fields ⟨[(.str "equal_arrays" 316), (.str "equal_arrays" 317), (.str "/claim/cut.py" 318), (.int 70 0), (.int 2 0), (.int 0 0), (.int 0 0), (.int 3 0), (.ref 114), (.bool true), (.int 181 0), (.ref 115), .none, (.ref 116), (.ref 117), (.ref 118), (.int 321 0), (.int 70 0), (.str "/claim/cut.py" 322)]⟩), #[]⟩
noncomputable def o120 (P : Params) : Obj := fequal_arrays.ob
noncomputable def o121 (P : Params) : Obj := ⟨(.type "tuple"), none, (.seq ⟨[]⟩ 0), #[]⟩
noncomputable def o122 (P : Params) : Obj := ⟨.none, none, (.fields ⟨[]⟩), #[]⟩
noncomputable def o123 (P : Params) : Obj := ⟨(.type "tuple"), none, (.seq ⟨[(.str "t" 327), (.str "length" 328)]⟩ 0), #[]⟩
noncomputable def o124 (P : Params) : Obj := ⟨(.type "tuple"), none, (.seq ⟨[]⟩ 0), #[]⟩
noncomputable def o125 (P : Params) : Obj := fassignable_string.tpl
noncomputable def o126 (P : Params) : Obj := ⟨(.type "code"), none, (.fields ⟨[(.str "assignable_string" 324), (.str "assignable_string" 325), (.str "/claim/cut.py" 326), (.int 76 0), (.int 2 0), (.int 0 0), (.int 0 0), (.int 3 0), (.ref 121), (.bool true), (.int 181 0), (.ref 122), .none, (.ref 123), (.ref 124), (.ref 125), (.int 329 0), (.int 76 0), (.str "/claim/cut.py" 330)]⟩), #[]⟩
noncomputable def o127 (P : Params) : Obj := fassignable_string.ob
noncomputable def o128 (P : Params) : Obj := ⟨(.type "tuple"), none, (.seq ⟨[]⟩ 0), #[]⟩
noncomputable def o129 (P : Params) : Obj := ⟨.none, none, (.fields ⟨[]⟩), #[]⟩
noncomputable def o130 (P : Params) : Obj := ⟨(.type "tuple"), none, (.seq ⟨[(.str "t" 335), (.str "node" 336)]⟩ 0), #[]⟩
noncomputable def o131 (P : Params) : Obj := ⟨(.type "tuple"), none, (.seq ⟨[]⟩ 0), #[]⟩
noncomputable def o132 (P : Params) : Obj := fassignable_proc.tpl
noncomputable def o133 (P : Params) : Obj := ⟨(.type "code"), none, (.fields ⟨[(.str "assignable_proc" 332), (.str "assignable_proc" 333), (.str "/claim/cut.py" 334), (.int 84 0), (.int 2 0), (.int 0 0), (.int 0 0), (.int 3 0), (.ref 128), (.bool true), (.int 181 0), (.ref 129), .none, (.ref 130), (.ref 131), (.ref 132), (.int 337 0), (.int 84 0), (.str "/claim/cut.py" 338)]⟩), #[]⟩
noncomputable def o134 (P : Params) : Obj := fassignable_proc.ob
noncomputable def o135 (P : Params) : Obj := ⟨(.type "tuple"), none, (.seq ⟨[]⟩ 0), #[]⟩
noncomputable def o136 (P : Params) : Obj := ⟨.none, none, (.fields ⟨[]⟩), #[]⟩
noncomputable def o137 (P : Params) : Obj := ⟨(.type "tuple"), none, (.seq ⟨[(.str "t" 343), (.str "node" 344), (.str "v" 345)]⟩ 0), #[]⟩
noncomputable def o138 (P : Params) : Obj := ⟨(.type "tuple"), none, (.seq ⟨[]⟩ 0), #[]⟩
noncomputable def o139 (P : Params) : Obj := fassignable.tpl
noncomputable def o140 (P : Params) : Obj := ⟨(.type "code"), none, (.fields ⟨[(.str "assignable" 340), (.str "assignable" 341), (.str "/claim/cut.py" 342), (.int 88 0), (.int 2 0), (.int 0 0), (.int 0 0), (.int 3 0), (.ref 135), (.bool true), (.int 181 0), (.ref 136), .none, (.ref 137), (.ref 138), (.ref 139), (.int 346 0), (.int 88 0), (.str "/claim/cut.py" 347)]⟩), #[]⟩
noncomputable def o141 (P : Params) : Obj := fassignable.ob
noncomputable def o142 (P : Params) : Obj := ⟨(.type "tuple"), none, (.seq ⟨[]⟩ 0), #[]⟩
noncomputable def o143 (P : Params) : Obj := ⟨.none, none, (.fields ⟨[]⟩), #[]⟩
noncomputable def o144 (P : Params) : Obj := ⟨(.type "tuple"), none, (.seq ⟨[(.str "t" 352), (.str "node" 353), (.str "v" 354), (.str "fits" 355)]⟩ 0), #[]⟩
noncomputable def o145 (P : Params) : Obj := ⟨(.type "tuple"), none, (.seq ⟨[]⟩ 0), #[]⟩
noncomputable def o146 (P : Params) : Obj := fpassable_variable.tpl
noncomputable def o147 (P : Params) : Obj := ⟨(.type "code"), none, (.fields ⟨[(.str "passable_variable" 349), (.str "passable_variable" 350), (.str "/claim/cut.py" 351), (.int 103 0), (.int 2 0), (.int 0 0), (.int 0 0), (.int 3 0), (.ref 142), (.bool true), (.int 181 0), (.ref 143), .none, (.ref 144), (.ref 145), (.ref 146), (.int 356 0), (.int 103 0), (.str "/claim/cut.py" 357)]⟩), #[]⟩
noncomputable def o148 (P : Params) : Obj := fpassable_variable.ob
noncomputable def o149 (P : Params) : Obj := ⟨(.type "tuple"), none, (.seq ⟨[]⟩ 0), #[]⟩
noncomputable def o150 (P : Params) : Obj := ⟨.none, none, (.fields ⟨[]⟩), #[]⟩
noncomputable def o151 (P : Params) : Obj := ⟨(.type "tuple"), none, (.seq ⟨[(.str "t" 362), (.str "node" 363), (.str "v" 364), (.str "fits" 365)]⟩ 0), #[]⟩
noncomputable def o152 (P : Params) : Obj := ⟨(.type "tuple"), none, (.seq ⟨[]⟩ 0), #[]⟩
noncomputable def o153 (P : Params) : Obj := fpassable_structure.tpl
noncomputable def o154 (P : Params) : Obj := ⟨(.type "code"), none, (.fields ⟨[(.str "passable_structure" 359), (.str "passable_structure" 360), (.str "/claim/cut.py" 361), (.int 116 0), (.int 2 0), (.int 0 0), (.int 0 0), (.int 3 0), (.ref 149), (.bool true), (.int 181 0), (.ref 150), .none, (.ref 151), (.ref 152), (.ref 153), (.int 366 0), (.int 116 0), (.str "/claim/cut.py" 367)]⟩), #[]⟩
noncomputable def o155 (P : Params) : Obj := fpassable_structure.ob
noncomputable def o156 (P : Params) : Obj := ⟨(.type "tuple"), none, (.seq ⟨[]⟩ 0), #[]⟩
noncomputable def o157 (P : Params) : Obj := ⟨.none, none, (.fields ⟨[]⟩), #[]⟩
noncomputable def o158 (P : Params) : Obj := ⟨(.type "tuple"), none, (.seq ⟨[(.str "par" 372), (.str "node" 373)]⟩ 0), #[]⟩
noncomputable def o159 (P : Params) : Obj := ⟨(.type "tuple"), none, (.seq ⟨[]⟩ 0), #[]⟩
noncomputable def o160 (P : Params) : Obj := fpassable.tpl
noncomputable def o161 (P : Params) : Obj := ⟨(.type "code"), none, (.fields ⟨[(.str "passable" 369), (.str "passable" 370), (.str "/claim/cut.py" 371), (.int 127 0), (.int 2 0), (.int 0 0), (.int 0 0), (.int 3 0), (.ref 156), (.bool true), (.int 181 0), (.ref 157), .none, (.ref 158), (.ref 159), (.ref 160), (.int 374 0), (.int 127 0), (.str "/claim/cut.py" 375)]⟩), #[]⟩
noncomputable def o162 (P : Params) : Obj := fpassable.ob
noncomputable def o163 (P : Params) : Obj := ⟨(.type "tuple"), none, (.seq ⟨[]⟩ 0), #[]⟩
noncomputable def o164 (P : Params) : Obj := ⟨(.type "builtin_function_or_method"), none, (.fields ⟨[(.builtin "type.__prepare__"), (.type "type")]⟩), #[]⟩
noncomputable def o165 (P : Params) : Obj := ⟨(.type "dict"), none, (.dict ⟨[eO P "__module__" 386 (.str "moduleyard.types" 377), eO P "__qualname__" 388 (.str "Type" 387), eO P "__firstlineno__" 390 (.int 134 389), eO P "__init__" 400 (.ref 176), eO P "__static_attributes__" 413 (.ref 177)]⟩ 5), #[]⟩
noncomputable def o166 (P : Params) : Obj := ⟨(.type "tuple"), none, (.seq ⟨[]⟩ 0), #[]⟩
noncomputable def o167 (P : Params) : Obj := ⟨.none, none, (.fields ⟨[(.int 136 0), (.int 4 0), (.ref 175)]⟩), #[]⟩
noncomputable def o168 (P : Params) : Obj := ⟨(.type "code"), none, (.fields ⟨[(.str "Type" 381), (.str "Type" 382), (.str "/claim/cut.py" 383), (.int 134 0), (.int 0 0), (.int 0 0), (.int 0 0), (.int 0 0), (.ref 166), (.bool false), (.int 181 0), (.ref 167), .none, .none, .none, .none, (.int 384 0), (.int 134 0), (.str "/claim/cut.py" 385)]⟩), #[]⟩
noncomputable def o169 (P : Params) : Obj := ⟨(.type "frame"), none, .plain, ⟨[some (.ref 168), some (.ref 3), some (.ref 165), none, some (.str "moduleyard.types" 377), none, some (.ref 0)]⟩⟩
noncomputable def o170 (P : Params) : Obj := ⟨(.type "tuple"), none, (.seq ⟨[]⟩ 0), #[]⟩
noncomputable def o171 (P : Params) : Obj := ⟨.none, none, (.fields ⟨[]⟩), #[]⟩
noncomputable def o172 (P : Params) : Obj := ⟨(.type "tuple"), none, (.seq ⟨[(.str "self" 394), (.str "number" 395), (.str "form" 396), (.str "size" 397)]⟩ 0), #[]⟩
noncomputable def o173 (P : Params) : Obj := ⟨(.type "tuple"), none, (.seq ⟨[]⟩ 0), #[]⟩
noncomputable def o174 (P : Params) : Obj := fType_init.tpl
noncomputable def o175 (P : Params) : Obj := ⟨(.type "code"), none, (.fields ⟨[(.str "__init__" 391), (.str "Type.__init__" 392), (.str "/claim/cut.py" 393), (.int 136 0), (.int 4 0), (.int 0 0), (.int 0 0), (.int 3 0), (.ref 170), (.bool true), (.int 181 0), (.ref 171), .none, (.ref 172), (.ref 173), (.ref 174), (.int 398 0), (.int 136 0), (.str "/claim/cut.py" 399)]⟩), #[]⟩
noncomputable def o176 (P : Params) : Obj := fType_init.ob
noncomputable def o177 (P : Params) : Obj := ⟨(.type "tuple"), none, (.seq ⟨[(.str "base" 401), (.str "exno" 402), (.str "fields" 403), (.str "form" 404), (.str "hidden" 405), (.str "label" 406), (.str "length" 407), (.str "level" 408), (.str "module" 409), (.str "number" 410), (.str "params" 411), (.str "size" 412)]⟩ 0), #[]⟩
noncomputable def o178 (P : Params) : Obj := ⟨(.type "dict"), none, (.dict ⟨[eO P "__module__" 386 (.str "moduleyard.types" 377), eO P "__firstlineno__" 390 (.int 134 389), eO P "__init__" 400 (.ref 176), eO P "__static_attributes__" 413 (.ref 177), eO P "__dict__" 415 (.ref 180), eO P "__weakref__" 417 (.ref 181), eO P "__doc__" 418 .none]⟩ 4), #[]⟩
noncomputable def o179 (P : Params) : Obj := ⟨(.type "type"), none, (.cls { name := "Type", bases := [(.type "object")], mro := [(.ref 179), (.type "object")], ns := 178, qualname := "Type", hasDict := true, slotNames := [], subclasses := [], abstract := false, collection := none, hasDel := false }), ⟨[none, none, some (.str "Type" 379), some (.str "Type" 387), some (.builtin "object.__new__"), some (.bool true)]⟩⟩
noncomputable def o180 (P : Params) : Obj := ⟨(.type "getset_descriptor"), none, (.fields ⟨[(.str "__dict__" 414), (.ref 179), (.builtin "function.__dict__"), (.builtin "function.__dict__#set")]⟩), #[]⟩
noncomputable def o181 (P : Params) : Obj := ⟨(.type "getset_descriptor"), none, (.fields ⟨[(.str "__weakref__" 416), (.ref 179), (.builtin "ExceptionGroup.__weakref__"), .none]⟩), #[]⟩
noncomputable def o182 (P : Params) : Obj := ⟨(.type "super"), none, (.fields ⟨[(.ref 179), (.ref 179), (.ref 179)]⟩), #[]⟩
noncomputable def o183 (P : Params) : Obj := ⟨(.type "builtin_function_or_method"), none, (.fields ⟨[(.builtin "object.__init_subclass__"), (.ref 179)]⟩), #[]⟩
noncomputable def o184 (P : Params) : Obj := ⟨(.type "tuple"), none, (.seq ⟨[]⟩ 0), #[]⟩
noncomputable def o185 (P : Params) : Obj := ⟨(.type "builtin_function_or_method"), none, (.fields ⟨[(.builtin "type.__prepare__"), (.type "type")]⟩), #[]⟩
noncomputable def o186 (P : Params) : Obj := ⟨(.type "dict"), none, (.dict ⟨[eO P "__module__" 428 (.str "moduleyard.types" 377), eO P "__qualname__" 430 (.str "Obj" 429), eO P "__firstlineno__" 432 (.int 149 431), eO P "__init__" 443 (.ref 197), eO P "__static_attributes__" 458 (.ref 198)]⟩ 5), #[]⟩
noncomputable def o187 (P : Params) : Obj := ⟨(.type "tuple"), none, (.seq ⟨[]⟩ 0), #[]⟩
noncomputable def o188 (P : Params) : Obj := ⟨.none, none, (.fields ⟨[(.int 151 0), (.int 4 0), (.ref 196)]⟩), #[]⟩
noncomputable def o189 (P : Params) : Obj := ⟨(.type "code"), none, (.fields ⟨[(.str "Obj" 423), (.str "Obj" 424), (.str "/claim/cut.py" 425), (.int 149 0), (.int 0 0), (.int 0 0), (.int 0 0), (.int 0 0), (.ref 187), (.bool false), (.int 181 0), (.ref 188), .none, .none, .none, .none, (.int 426 0), (.int 149 0), (.str "/claim/cut.py" 427)]⟩), #[]⟩
noncomputable def o190 (P : Params) : Obj := ⟨(.type "frame"), none, .plain, ⟨[some (.ref 189), some (.ref 3), some (.ref 186), none, some (.str "moduleyard.types" 377), none, some (.ref 0)]⟩⟩
noncomputable def o191 (P : Params) : Obj := ⟨(.type "tuple"), none, (.seq ⟨[]⟩ 0), #[]⟩
noncomputable def o192 (P : Params) : Obj := ⟨.none, none, (.fields ⟨[]⟩), #[]⟩
noncomputable def o193 (P : Params) : Obj := ⟨(.type "tuple"), none, (.seq ⟨[(.str "self" 436), (.str "name" 437), (.str "kind" 438), (.str "type_of" 439), (.str "place" 440)]⟩ 0), #[]⟩
noncomputable def o194 (P : Params) : Obj := ⟨(.type "tuple"), none, (.seq ⟨[]⟩ 0), #[]⟩
noncomputable def o195 (P : Params) : Obj := fObj_init.tpl
noncomputable def o196 (P : Params) : Obj := ⟨(.type "code"), none, (.fields ⟨[(.str "__init__" 433), (.str "Obj.__init__" 434), (.str "/claim/cut.py" 435), (.int 151 0), (.int 5 0), (.int 0 0), (.int 0 0), (.int 3 0), (.ref 191), (.bool true), (.int 181 0), (.ref 192), .none, (.ref 193), (.ref 194), (.ref 195), (.int 441 0), (.int 151 0), (.str "/claim/cut.py" 442)]⟩), #[]⟩
noncomputable def o197 (P : Params) : Obj := fObj_init.ob
noncomputable def o198 (P : Params) : Obj := ⟨(.type "tuple"), none, (.seq ⟨[(.str "exported" 444), (.str "isparam" 445), (.str "kind" 446), (.str "level" 447), (.str "module" 448), (.str "name" 449), (.str "narrowed" 450), (.str "number" 451), (.str "offset" 452), (.str "place" 453), (.str "readonly" 454), (.str "slot" 455), (.str "type" 456), (.str "value" 457)]⟩ 0), #[]⟩
noncomputable def o199 (P : Params) : Obj := ⟨(.type "dict"), none, (.dict ⟨[eO P "__module__" 428 (.str "moduleyard.types" 377), eO P "__firstlineno__" 432 (.int 149 431), eO P "__init__" 443 (.ref 197), eO P "__static_attributes__" 458 (.ref 198), eO P "__dict__" 460 (.ref 201), eO P "__weakref__" 462 (.ref 202), eO P "__doc__" 463 .none]⟩ 4), #[]⟩
noncomputable def o200 (P : Params) : Obj := ⟨(.type "type"), none, (.cls { name := "Obj", bases := [(.type "object")], mro := [(.ref 200), (.type "object")], ns := 199, qualname := "Obj", hasDict := true, slotNames := [], subclasses := [], abstract := false, collection := none, hasDel := false }), ⟨[none, none, some (.str "Obj" 421), some (.str "Obj" 429), some (.builtin "object.__new__"), some (.bool true)]⟩⟩
noncomputable def o201 (P : Params) : Obj := ⟨(.type "getset_descriptor"), none, (.fields ⟨[(.str "__dict__" 459), (.ref 200), (.builtin "function.__dict__"), (.builtin "function.__dict__#set")]⟩), #[]⟩
noncomputable def o202 (P : Params) : Obj := ⟨(.type "getset_descriptor"), none, (.fields ⟨[(.str "__weakref__" 461), (.ref 200), (.builtin "ExceptionGroup.__weakref__"), .none]⟩), #[]⟩
noncomputable def o203 (P : Params) : Obj := ⟨(.type "super"), none, (.fields ⟨[(.ref 200), (.ref 200), (.ref 200)]⟩), #[]⟩
noncomputable def o204 (P : Params) : Obj := ⟨(.type "builtin_function_or_method"), none, (.fields ⟨[(.builtin "object.__init_subclass__"), (.ref 200)]⟩), #[]⟩
noncomputable def o205 (P : Params) : Obj := ⟨(.type "tuple"), none, (.seq ⟨[]⟩ 0), #[]⟩
noncomputable def o206 (P : Params) : Obj := ⟨(.type "builtin_function_or_method"), none, (.fields ⟨[(.builtin "type.__prepare__"), (.type "type")]⟩), #[]⟩
noncomputable def o207 (P : Params) : Obj := ⟨(.type "dict"), none, (.dict ⟨[eO P "__module__" 473 (.str "moduleyard.types" 377), eO P "__qualname__" 475 (.str "Types" 474), eO P "__firstlineno__" 477 (.int 166 476), eO P "__init__" 484 (.ref 218), eO P "new" 498 (.ref 226), eO P "string" 507 (.ref 233), eO P "__static_attributes__" 517 (.ref 234)]⟩ 7), #[]⟩
noncomputable def o208 (P : Params) : Obj := ⟨(.type "tuple"), none, (.seq ⟨[]⟩ 0), #[]⟩
noncomputable def o209 (P : Params) : Obj := ⟨.none, none, (.fields ⟨[(.int 168 0), (.int 4 0), (.ref 217), (.int 179 0), (.int 4 0), (.ref 225), (.int 188 0), (.int 4 0), (.ref 232)]⟩), #[]⟩
noncomputable def o210 (P : Params) : Obj := ⟨(.type "code"), none, (.fields ⟨[(.str "Types" 468), (.str "Types" 469), (.str "/claim/cut.py" 470), (.int 166 0), (.int 0 0), (.int 0 0), (.int 0 0), (.int 0 0), (.ref 208), (.bool false), (.int 181 0), (.ref 209), .none, .none, .none, .none, (.int 471 0), (.int 166 0), (.str "/claim/cut.py" 472)]⟩), #[]⟩
noncomputable def o211 (P : Params) : Obj := ⟨(.type "frame"), none, .plain, ⟨[some (.ref 210), some (.ref 3), some (.ref 207), none, some (.str "moduleyard.types" 377), none, some (.ref 0)]⟩⟩
noncomputable def o212 (P : Params) : Obj := ⟨(.type "tuple"), none, (.seq ⟨[]⟩ 0), #[]⟩
noncomputable def o213 (P : Params) : Obj := ⟨.none, none, (.fields ⟨[]⟩), #[]⟩
noncomputable def o214 (P : Params) : Obj := ⟨(.type "tuple"), none, (.seq ⟨[(.str "self" 481)]⟩ 0), #[]⟩
noncomputable def o215 (P : Params) : Obj := ⟨(.type "tuple"), none, (.seq ⟨[]⟩ 0), #[]⟩
noncomputable def o216 (P : Params) : Obj := fTypes_init.tpl
noncomputable def o217 (P : Params) : Obj := ⟨(.type "code"), none, (.fields ⟨[(.str "__init__" 478), (.str "Types.__init__" 479), (.str "/claim/cut.py" 480), (.int 168 0), (.int 1 0), (.int 0 0), (.int 0 0), (.int 3 0), (.ref 212), (.bool true), (.int 181 0), (.ref 213), .none, (.ref 214), (.ref 215), (.ref 216), (.int 482 0), (.int 168 0), (.str "/claim/cut.py" 483)]⟩), #[]⟩
noncomputable def o218 (P : Params) : Obj := fTypes_init.ob
noncomputable def o219 (P : Params) : Obj := ⟨(.type "tuple"), none, (.seq ⟨[(.str "" 485), (.str "" 486)]⟩ 0), #[]⟩
noncomputable def o220 (P : Params) : Obj := ⟨(.type "tuple"), none, (.seq ⟨[]⟩ 0), #[]⟩
noncomputable def o221 (P : Params) : Obj := ⟨.none, none, (.fields ⟨[]⟩), #[]⟩
noncomputable def o222 (P : Params) : Obj := ⟨(.type "tuple"), none, (.seq ⟨[(.str "self" 490), (.str "form" 491), (.str "size" 492), (.str "module" 493), (.str "label" 494), (.str "made" 495)]⟩ 0), #[]⟩
noncomputable def o223 (P : Params) : Obj := ⟨(.type "tuple"), none, (.seq ⟨[]⟩ 0), #[]⟩
noncomputable def o224 (P : Params) : Obj := fTypes_new.tpl
noncomputable def o225 (P : Params) : Obj := ⟨(.type "code"), none, (.fields ⟨[(.str "new" 487), (.str "Types.new" 488), (.str "/claim/cut.py" 489), (.int 179 0), (.int 5 0), (.int 0 0), (.int 0 0), (.int 3 0), (.ref 220), (.bool true), (.int 181 0), (.ref 221), .none, (.ref 222), (.ref 223), (.ref 224), (.int 496 0), (.int 179 0), (.str "/claim/cut.py" 497)]⟩), #[]⟩
noncomputable def o226 (P : Params) : Obj := fTypes_new.ob
noncomputable def o227 (P : Params) : Obj := ⟨(.type "tuple"), none, (.seq ⟨[]⟩ 0), #[]⟩
noncomputable def o228 (P : Params) : Obj := ⟨.none, none, (.fields ⟨[]⟩), #[]⟩
noncomputable def o229 (P : Params) : Obj := ⟨(.type "tuple"), none, (.seq ⟨[(.str "self" 502), (.str "length" 503), (.str "made" 504)]⟩ 0), #[]⟩
noncomputable def o230 (P : Params) : Obj := ⟨(.type "tuple"), none, (.seq ⟨[]⟩ 0), #[]⟩
noncomputable def o231 (P : Params) : Obj := fTypes_string.tpl
noncomputable def o232 (P : Params) : Obj := ⟨(.type "code"), none, (.fields ⟨[(.str "string" 499), (.str "Types.string" 500), (.str "/claim/cut.py" 501), (.int 188 0), (.int 2 0), (.int 0 0), (.int 0 0), (.int 3 0), (.ref 227), (.bool true), (.int 181 0), (.ref 228), .none, (.ref 229), (.ref 230), (.ref 231), (.int 505 0), (.int 188 0), (.str "/claim/cut.py" 506)]⟩), #[]⟩
noncomputable def o233 (P : Params) : Obj := fTypes_string.ob
noncomputable def o234 (P : Params) : Obj := ⟨(.type "tuple"), none, (.seq ⟨[(.str "boolean" 508), (.str "byte" 509), (.str "char" 510), (.str "counter" 511), (.str "integer" 512), (.str "known" 513), (.str "mask" 514), (.str "nil" 515), (.str "none" 516)]⟩ 0), #[]⟩
noncomputable def o235 (P : Params) : Obj := ⟨(.type "dict"), none, (.dict ⟨[eO P "__module__" 473 (.str "moduleyard.types" 377), eO P "__firstlineno__" 477 (.int 166 476), eO P "__init__" 484 (.ref 218), eO P "new" 498 (.ref 226), eO P "string" 507 (.ref 233), eO P "__static_attributes__" 517 (.ref 234), eO P "__dict__" 519 (.ref 237), eO P "__weakref__" 521 (.ref 238), eO P "__doc__" 522 .none]⟩ 4), #[]⟩
noncomputable def o236 (P : Params) : Obj := ⟨(.type "type"), none, (.cls { name := "Types", bases := [(.type "object")], mro := [(.ref 236), (.type "object")], ns := 235, qualname := "Types", hasDict := true, slotNames := [], subclasses := [], abstract := false, collection := none, hasDel := false }), ⟨[none, none, some (.str "Types" 466), some (.str "Types" 474), some (.builtin "object.__new__"), some (.bool true)]⟩⟩
noncomputable def o237 (P : Params) : Obj := ⟨(.type "getset_descriptor"), none, (.fields ⟨[(.str "__dict__" 518), (.ref 236), (.builtin "function.__dict__"), (.builtin "function.__dict__#set")]⟩), #[]⟩
noncomputable def o238 (P : Params) : Obj := ⟨(.type "getset_descriptor"), none, (.fields ⟨[(.str "__weakref__" 520), (.ref 236), (.builtin "ExceptionGroup.__weakref__"), .none]⟩), #[]⟩
noncomputable def o239 (P : Params) : Obj := ⟨(.type "super"), none, (.fields ⟨[(.ref 236), (.ref 236), (.ref 236)]⟩), #[]⟩
noncomputable def o240 (P : Params) : Obj := ⟨(.type "builtin_function_or_method"), none, (.fields ⟨[(.builtin "object.__init_subclass__"), (.ref 236)]⟩), #[]⟩
noncomputable def o241 (P : Params) : Obj := ⟨(.type "tuple"), none, (.seq ⟨[]⟩ 0), #[]⟩
noncomputable def o242 (P : Params) : Obj := ⟨.none, none, (.fields ⟨[]⟩), #[]⟩
noncomputable def o243 (P : Params) : Obj := ⟨(.type "tuple"), none, (.seq ⟨[(.str "script" 530), (.str "figures" 531), (.str "mix" 532), (.str "cell" 533), (.str "big" 534), (.str "rest" 535), (.str "step" 536)]⟩ 0), #[]⟩
noncomputable def o244 (P : Params) : Obj := ⟨(.type "tuple"), none, (.seq ⟨[]⟩ 0), #[]⟩
noncomputable def o245 (P : Params) : Obj := flaw_pool.tpl
noncomputable def o246 (P : Params) : Obj := ⟨(.type "code"), none, (.fields ⟨[(.str "_law_pool" 527), (.str "_law_pool" 528), (.str "/claim/cut.py" 529), (.int 194 0), (.int 1 0), (.int 0 0), (.int 0 0), (.int 3 0), (.ref 241), (.bool true), (.int 181 0), (.ref 242), .none, (.ref 243), (.ref 244), (.ref 245), (.int 537 0), (.int 194 0), (.str "/claim/cut.py" 538)]⟩), #[]⟩
noncomputable def o247 (P : Params) : Obj := flaw_pool.ob
noncomputable def o248 (P : Params) : Obj := ⟨(.type "tuple"), none, (.seq ⟨[]⟩ 0), #[]⟩
noncomputable def o249 (P : Params) : Obj := ⟨.none, none, (.fields ⟨[]⟩), #[]⟩
noncomputable def o250 (P : Params) : Obj := ⟨(.type "tuple"), none, (.seq ⟨[(.str "pool" 543), (.str "bound_x" 544), (.str "figure" 545)]⟩ 0), #[]⟩
noncomputable def o251 (P : Params) : Obj := ⟨(.type "tuple"), none, (.seq ⟨[]⟩ 0), #[]⟩
noncomputable def o252 (P : Params) : Obj := flaw_pick.tpl
noncomputable def o253 (P : Params) : Obj := ⟨(.type "code"), none, (.fields ⟨[(.str "_law_pick" 540), (.str "_law_pick" 541), (.str "/claim/cut.py" 542), (.int 209 0), (.int 2 0), (.int 0 0), (.int 0 0), (.int 3 0), (.ref 248), (.bool true), (.int 181 0), (.ref 249), .none, (.ref 250), (.ref 251), (.ref 252), (.int 546 0), (.int 209 0), (.str "/claim/cut.py" 547)]⟩), #[]⟩
noncomputable def o254 (P : Params) : Obj := flaw_pick.ob
noncomputable def o255 (P : Params) : Obj := ⟨(.type "tuple"), none, (.seq ⟨[]⟩ 0), #[]⟩
noncomputable def o256 (P : Params) : Obj := ⟨.none, none, (.fields ⟨[]⟩), #[]⟩
noncomputable def o257 (P : Params) : Obj := ⟨(.type "tuple"), none, (.seq ⟨[(.str "pool" 552), (.str "types" 553), (.str "rows" 554), (.str "homes" 555), (.str "step" 556), (.str "above" 557), (.str "made" 558), (.str "home" 559), (.str "inner" 560), (.str "count" 561), (.str "sides" 562), (.str "turn" 563), (.str "way" 564), (.str "side" 565), (.str "back" 566)]⟩ 0), #[]⟩
noncomputable def o258 (P : Params) : Obj := ⟨(.type "tuple"), none, (.seq ⟨[]⟩ 0), #[]⟩
noncomputable def o259 (P : Params) : Obj := flaw_world.tpl
noncomputable def o260 (P : Params) : Obj := ⟨(.type "code"), none, (.fields ⟨[(.str "_law_world" 549), (.str "_law_world" 550), (.str "/claim/cut.py" 551), (.int 219 0), (.int 1 0), (.int 0 0), (.int 0 0), (.int 3 0), (.ref 255), (.bool true), (.int 181 0), (.ref 256), .none, (.ref 257), (.ref 258), (.ref 259), (.int 567 0), (.int 219 0), (.str "/claim/cut.py" 568)]⟩), #[]⟩
noncomputable def o261 (P : Params) : Obj := flaw_world.ob
noncomputable def o262 (P : Params) : Obj := ⟨(.type "tuple"), none, (.seq ⟨[]⟩ 0), #[]⟩
noncomputable def o263 (P : Params) : Obj := ⟨.none, none, (.fields ⟨[]⟩), #[]⟩
noncomputable def o264 (P : Params) : Obj := ⟨(.type "tuple"), none, (.seq ⟨[(.str "rows" 573), (.str "one" 574), (.str "two" 575), (.str "first" 576), (.str "second" 577), (.str "left" 578), (.str "right" 579)]⟩ 0), #[]⟩
noncomputable def o265 (P : Params) : Obj := ⟨(.type "tuple"), none, (.seq ⟨[]⟩ 0), #[]⟩
noncomputable def o266 (P : Params) : Obj := flaw_alike.tpl
noncomputable def o267 (P : Params) : Obj := ⟨(.type "code"), none, (.fields ⟨[(.str "_law_alike" 570), (.str "_law_alike" 571), (.str "/claim/cut.py" 572), (.int 256 0), (.int 3 0), (.int 0 0), (.int 0 0), (.int 3 0), (.ref 262), (.bool true), (.int 181 0), (.ref 263), .none, (.ref 264), (.ref 265), (.ref 266), (.int 580 0), (.int 256 0), (.str "/claim/cut.py" 581)]⟩), #[]⟩
noncomputable def o268 (P : Params) : Obj := flaw_alike.ob
noncomputable def o269 (P : Params) : Obj := ⟨(.type "tuple"), none, (.seq ⟨[]⟩ 0), #[]⟩
noncomputable def o270 (P : Params) : Obj := ⟨.none, none, (.fields ⟨[]⟩), #[]⟩
noncomputable def o271 (P : Params) : Obj := ⟨(.type "tuple"), none, (.seq ⟨[(.str "rows" 586), (.str "one" 587), (.str "two" 588), (.str "first" 589), (.str "second" 590)]⟩ 0), #[]⟩
noncomputable def o272 (P : Params) : Obj := ⟨(.type "tuple"), none, (.seq ⟨[]⟩ 0), #[]⟩
noncomputable def o273 (P : Params) : Obj := flaw_above.tpl
noncomputable def o274 (P : Params) : Obj := ⟨(.type "code"), none, (.fields ⟨[(.str "_law_above" 583), (.str "_law_above" 584), (.str "/claim/cut.py" 585), (.int 270 0), (.int 3 0), (.int 0 0), (.int 0 0), (.int 3 0), (.ref 269), (.bool true), (.int 181 0), (.ref 270), .none, (.ref 271), (.ref 272), (.ref 273), (.int 591 0), (.int 270 0), (.str "/claim/cut.py" 592)]⟩), #[]⟩
noncomputable def o275 (P : Params) : Obj := flaw_above.ob
noncomputable def o276 (P : Params) : Obj := ⟨(.type "tuple"), none, (.seq ⟨[]⟩ 0), #[]⟩
noncomputable def o277 (P : Params) : Obj := ⟨.none, none, (.fields ⟨[]⟩), #[]⟩
noncomputable def o278 (P : Params) : Obj := ⟨(.type "tuple"), none, (.seq ⟨[(.str "pool" 597), (.str "rows" 598), (.str "spot" 599), (.str "way" 600), (.str "held" 601), (.str "entire" 602), (.str "root" 603), (.str "part_of" 604)]⟩ 0), #[]⟩
noncomputable def o279 (P : Params) : Obj := ⟨(.type "tuple"), none, (.seq ⟨[]⟩ 0), #[]⟩
noncomputable def o280 (P : Params) : Obj := flaw_node.tpl
noncomputable def o281 (P : Params) : Obj := ⟨(.type "code"), none, (.fields ⟨[(.str "_law_node" 594), (.str "_law_node" 595), (.str "/claim/cut.py" 596), (.int 281 0), (.int 4 0), (.int 0 0), (.int 0 0), (.int 3 0), (.ref 276), (.bool true), (.int 181 0), (.ref 277), .none, (.ref 278), (.ref 279), (.ref 280), (.int 605 0), (.int 281 0), (.str "/claim/cut.py" 606)]⟩), #[]⟩
noncomputable def o282 (P : Params) : Obj := flaw_node.ob
noncomputable def o283 (P : Params) : Obj := ⟨(.type "tuple"), none, (.seq ⟨[]⟩ 0), #[]⟩
noncomputable def o284 (P : Params) : Obj := ⟨.none, none, (.fields ⟨[]⟩), #[]⟩
noncomputable def o285 (P : Params) : Obj := ⟨(.type "tuple"), none, (.seq ⟨[(.str "rows" 611), (.str "to" 612), (.str "spot" 613), (.str "one" 614), (.str "two" 615)]⟩ 0), #[]⟩
noncomputable def o286 (P : Params) : Obj := ⟨(.type "tuple"), none, (.seq ⟨[]⟩ 0), #[]⟩
noncomputable def o287 (P : Params) : Obj := flaw_fits.tpl
noncomputable def o288 (P : Params) : Obj := ⟨(.type "code"), none, (.fields ⟨[(.str "_law_fits" 608), (.str "_law_fits" 609), (.str "/claim/cut.py" 610), (.int 294 0), (.int 3 0), (.int 0 0), (.int 0 0), (.int 3 0), (.ref 283), (.bool true), (.int 181 0), (.ref 284), .none, (.ref 285), (.ref 286), (.ref 287), (.int 616 0), (.int 294 0), (.str "/claim/cut.py" 617)]⟩), #[]⟩
noncomputable def o289 (P : Params) : Obj := flaw_fits.ob
noncomputable def o290 (P : Params) : Obj := ⟨(.type "tuple"), none, (.seq ⟨[]⟩ 0), #[]⟩
noncomputable def o291 (P : Params) : Obj := ⟨.none, none, (.fields ⟨[]⟩), #[]⟩
noncomputable def o292 (P : Params) : Obj := ⟨(.type "tuple"), none, (.seq ⟨[(.str "script" 622), (.str "pool" 623), (.str "types" 624), (.str "rows" 625), (.str "step" 626), (.str "to" 627), (.str "mode" 628), (.str "shape" 629), (.str "side" 630), (.str "way" 631), (.str "spot" 632), (.str "told" 633), (.str "count" 634), (.str "node" 635), (.str "due" 636), (.str "good" 637), (.str "two" 638)]⟩ 0), #[]⟩
noncomputable def o293 (P : Params) : Obj := ⟨(.type "tuple"), none, (.seq ⟨[]⟩ 0), #[]⟩
noncomputable def o294 (P : Params) : Obj := flaw.tpl
noncomputable def o295 (P : Params) : Obj := ⟨(.type "code"), none, (.fields ⟨[(.str "law" 619), (.str "law" 620), (.str "/claim/cut.py" 621), (.int 301 0), (.int 1 0), (.int 0 0), (.int 0 0), (.int 3 0), (.ref 290), (.bool true), (.int 181 0), (.ref 291), .none, (.ref 292), (.ref 293), (.ref 294), (.int 639 0), (.int 301 0), (.str "/claim/cut.py" 640)]⟩), #[]⟩
noncomputable def o296 (P : Params) : Obj := flaw.ob
noncomputable def o3_0 (P : Params) : Obj := boot_o_3 P
noncomputable def o12_0 (P : Params) : Obj := ⟨.none, none, (.fields ⟨[]⟩), #[]⟩
noncomputable def m1 (P : Params) : List DictEntry := [eO P "__name__" 165 (.str "moduleyard.trees" 187), eO P "__doc__" 166 .none, eO P "__package__" 167 .none, eO P "__loader__" 168 (.builtin "__main__.__loader__#opaque"), eO P "__spec__" 169 .none, eO P "__annotations__" 170 (.ref 6), eO P "__builtins__" 171 (.ref 4), eO P "__file__" 173 (.str "/claim/cut.py" 172), eO P "__cached__" 174 .none, eO P "Node" 226 (.ref 32), eO P "is_designator" 233 (.ref 43), eO P "root_var" 240 (.ref 50), eO P "is_readonly" 248 (.ref 57)]
noncomputable def o3_1 (P : Params) : Obj := ⟨.type "dict", none, .dict ⟨m1 P⟩ 13, #[]⟩
noncomputable def o12_1 (P : Params) : Obj := ⟨.none, none, .fields ⟨[(.int 2 0), (.int 0 0), (.ref 20), (.int 11 0), (.int 0 0), (.ref 42), (.int 15 0), (.int 0 0), (.ref 49), (.int 21 0), (.int 0 0), (.ref 56)]⟩, #[]⟩
noncomputable def m2 (P : Params) : List DictEntry := [eO P "__name__" 165 (.str "moduleyard.typerel" 249), eO P "__doc__" 166 .none, eO P "__package__" 167 .none, eO P "__loader__" 168 (.builtin "__main__.__loader__#opaque"), eO P "__spec__" 169 .none, eO P "__annotations__" 170 (.ref 6), eO P "__builtins__" 171 (.ref 4), eO P "__file__" 173 (.str "/claim/cut.py" 172), eO P "__cached__" 174 .none, eO P "Node" 226 (.ref 32), eO P "is_designator" 233 (.ref 43), eO P "root_var" 240 (.ref 50), eO P "is_readonly" 248 (.ref 57), eO P "same_type" 258 (.ref 64), eO P "is_integer" 265 (.ref 71), eO P "is_text" 272 (.ref 78), eO P "is_open" 279 (.ref 85), eO P "record_of" 286 (.ref 92), eO P "extends" 296 (.ref 99), eO P "equal_types" 304 (.ref 106), eO P "equal_procs" 315 (.ref 113), eO P "equal_arrays" 323 (.ref 120)]
noncomputable def o3_2 (P : Params) : Obj := ⟨.type "dict", none, .dict ⟨m2 P⟩ 22, #[]⟩
noncomputable def o12_2 (P : Params) : Obj := ⟨.none, none, .fields ⟨[(.int 2 0), (.int 0 0), (.ref 20), (.int 11 0), (.int 0 0), (.ref 42), (.int 15 0), (.int 0 0), (.ref 49), (.int 21 0), (.int 0 0), (.ref 56), (.int 25 0), (.int 0 0), (.ref 63), (.int 27 0), (.int 0 0), (.ref 70), (.int 29 0), (.int 0 0), (.ref 77), (.int 31 0), (.int 0 0), (.ref 84), (.int 33 0), (.int 0 0), (.ref 91), (.int 39 0), (.int 0 0), (.ref 98), (.int 51 0), (.int 0 0), (.ref 105), (.int 59 0), (.int 0 0), (.ref 112), (.int 70 0), (.int 0 0), (.ref 119)]⟩, #[]⟩
noncomputable def m3 (P : Params) : List DictEntry := [eO P "__name__" 165 (.str "moduleyard.types" 377), eO P "__doc__" 166 .none, eO P "__package__" 167 .none, eO P "__loader__" 168 (.builtin "__main__.__loader__#opaque"), eO P "__spec__" 169 .none, eO P "__annotations__" 170 (.ref 6), eO P "__builtins__" 171 (.ref 4), eO P "__file__" 173 (.str "/claim/cut.py" 172), eO P "__cached__" 174 .none, eO P "Node" 226 (.ref 32), eO P "is_designator" 233 (.ref 43), eO P "root_var" 240 (.ref 50), eO P "is_readonly" 248 (.ref 57), eO P "same_type" 258 (.ref 64), eO P "is_integer" 265 (.ref 71), eO P "is_text" 272 (.ref 78), eO P "is_open" 279 (.ref 85), eO P "record_of" 286 (.ref 92), eO P "extends" 296 (.ref 99), eO P "equal_types" 304 (.ref 106), eO P "equal_procs" 315 (.ref 113), eO P "equal_arrays" 323 (.ref 120), eO P "assignable_string" 331 (.ref 127), eO P "assignable_proc" 339 (.ref 134), eO P "assignable" 348 (.ref 141), eO P "passable_variable" 358 (.ref 148), eO P "passable_structure" 368 (.ref 155), eO P "passable" 376 (.ref 162)]
noncomputable def o3_3 (P : Params) : Obj := ⟨.type "dict", none, .dict ⟨m3 P⟩ 28, #[]⟩
noncomputable def o12_3 (P : Params) : Obj := ⟨.none, none, .fields ⟨[(.int 2 0), (.int 0 0), (.ref 20), (.int 11 0), (.int 0 0), (.ref 42), (.int 15 0), (.int 0 0), (.ref 49), (.int 21 0), (.int 0 0), (.ref 56), (.int 25 0), (.int 0 0), (.ref 63), (.int 27 0), (.int 0 0), (.ref 70), (.int 29 0), (.int 0 0), (.ref 77), (.int 31 0), (.int 0 0), (.ref 84), (.int 33 0), (.int 0 0), (.ref 91), (.int 39 0), (.int 0 0), (.ref 98), (.int 51 0), (.int 0 0), (.ref 105), (.int 59 0), (.int 0 0), (.ref 112), (.int 70 0), (.int 0 0), (.ref 119), (.int 76 0), (.int 0 0), (.ref 126), (.int 84 0), (.int 0 0), (.ref 133), (.int 88 0), (.int 0 0), (.ref 140), (.int 103 0), (.int 0 0), (.ref 147), (.int 116 0), (.int 0 0), (.ref 154), (.int 127 0), (.int 0 0), (.ref 161)]⟩, #[]⟩
noncomputable def m4 (P : Params) : List DictEntry := [eO P "__name__" 165 (.str "moduleyard.types" 377), eO P "__doc__" 166 .none, eO P "__package__" 167 .none, eO P "__loader__" 168 (.builtin "__main__.__loader__#opaque"), eO P "__spec__" 169 .none, eO P "__annotations__" 170 (.ref 6), eO P "__builtins__" 171 (.ref 4), eO P "__file__" 173 (.str "/claim/cut.py" 172), eO P "__cached__" 174 .none, eO P "Node" 226 (.ref 32), eO P "is_designator" 233 (.ref 43), eO P "root_var" 240 (.ref 50), eO P "is_readonly" 248 (.ref 57), eO P "same_type" 258 (.ref 64), eO P "is_integer" 265 (.ref 71), eO P "is_text" 272 (.ref 78), eO P "is_open" 279 (.ref 85), eO P "record_of" 286 (.ref 92), eO P "extends" 296 (.ref 99), eO P "equal_types" 304 (.ref 106), eO P "equal_procs" 315 (.ref 113), eO P "equal_arrays" 323 (.ref 120), eO P "assignable_string" 331 (.ref 127), eO P "assignable_proc" 339 (.ref 134), eO P "assignable" 348 (.ref 141), eO P "passable_variable" 358 (.ref 148), eO P "passable_structure" 368 (.ref 155), eO P "passable" 376 (.ref 162), eO P "Type" 420 (.ref 179)]
noncomputable def o3_4 (P : Params) : Obj := ⟨.type "dict", none, .dict ⟨m4 P⟩ 29, #[]⟩
noncomputable def o12_4 (P : Params) : Obj := ⟨.none, none, .fields ⟨[(.int 2 0), (.int 0 0), (.ref 20), (.int 11 0), (.int 0 0), (.ref 42), (.int 15 0), (.int 0 0), (.ref 49), (.int 21 0), (.int 0 0), (.ref 56), (.int 25 0), (.int 0 0), (.ref 63), (.int 27 0), (.int 0 0), (.ref 70), (.int 29 0), (.int 0 0), (.ref 77), (.int 31 0), (.int 0 0), (.ref 84), (.int 33 0), (.int 0 0), (.ref 91), (.int 39 0), (.int 0 0), (.ref 98), (.int 51 0), (.int 0 0), (.ref 105), (.int 59 0), (.int 0 0), (.ref 112), (.int 70 0), (.int 0 0), (.ref 119), (.int 76 0), (.int 0 0), (.ref 126), (.int 84 0), (.int 0 0), (.ref 133), (.int 88 0), (.int 0 0), (.ref 140), (.int 103 0), (.int 0 0), (.ref 147), (.int 116 0), (.int 0 0), (.ref 154), (.int 127 0), (.int 0 0), (.ref 161), (.int 134 0), (.int 0 0), (.ref 168)]⟩, #[]⟩
noncomputable def m5 (P : Params) : List DictEntry := [eO P "__name__" 165 (.str "moduleyard.types" 377), eO P "__doc__" 166 .none, eO P "__package__" 167 .none, eO P "__loader__" 168 (.builtin "__main__.__loader__#opaque"), eO P "__spec__" 169 .none, eO P "__annotations__" 170 (.ref 6), eO P "__builtins__" 171 (.ref 4), eO P "__file__" 173 (.str "/claim/cut.py" 172), eO P "__cached__" 174 .none, eO P "Node" 226 (.ref 32), eO P "is_designator" 233 (.ref 43), eO P "root_var" 240 (.ref 50), eO P "is_readonly" 248 (.ref 57), eO P "same_type" 258 (.ref 64), eO P "is_integer" 265 (.ref 71), eO P "is_text" 272 (.ref 78), eO P "is_open" 279 (.ref 85), eO P "record_of" 286 (.ref 92), eO P "extends" 296 (.ref 99), eO P "equal_types" 304 (.ref 106), eO P "equal_procs" 315 (.ref 113), eO P "equal_arrays" 323 (.ref 120), eO P "assignable_string" 331 (.ref 127), eO P "assignable_proc" 339 (.ref 134), eO P "assignable" 348 (.ref 141), eO P "passable_variable" 358 (.ref 148), eO P "passable_structure" 368 (.ref 155), eO P "passable" 376 (.ref 162), eO P "Type" 420 (.ref 179), eO P "Obj" 465 (.ref 200)]
noncomputable def o3_5 (P : Params) : Obj := ⟨.type "dict", none, .dict ⟨m5 P⟩ 30, #[]⟩
noncomputable def o12_5 (P : Params) : Obj := ⟨.none, none, .fields ⟨[(.int 2 0), (.int 0 0), (.ref 20), (.int 11 0), (.int 0 0), (.ref 42), (.int 15 0), (.int 0 0), (.ref 49), (.int 21 0), (.int 0 0), (.ref 56), (.int 25 0), (.int 0 0), (.ref 63), (.int 27 0), (.int 0 0), (.ref 70), (.int 29 0), (.int 0 0), (.ref 77), (.int 31 0), (.int 0 0), (.ref 84), (.int 33 0), (.int 0 0), (.ref 91), (.int 39 0), (.int 0 0), (.ref 98), (.int 51 0), (.int 0 0), (.ref 105), (.int 59 0), (.int 0 0), (.ref 112), (.int 70 0), (.int 0 0), (.ref 119), (.int 76 0), (.int 0 0), (.ref 126), (.int 84 0), (.int 0 0), (.ref 133), (.int 88 0), (.int 0 0), (.ref 140), (.int 103 0), (.int 0 0), (.ref 147), (.int 116 0), (.int 0 0), (.ref 154), (.int 127 0), (.int 0 0), (.ref 161), (.int 134 0), (.int 0 0), (.ref 168), (.int 149 0), (.int 0 0), (.ref 189)]⟩, #[]⟩
noncomputable def m6 (P : Params) : List DictEntry := [eO P "__name__" 165 (.str "moduleyard.types" 377), eO P "__doc__" 166 .none, eO P "__package__" 167 .none, eO P "__loader__" 168 (.builtin "__main__.__loader__#opaque"), eO P "__spec__" 169 .none, eO P "__annotations__" 170 (.ref 6), eO P "__builtins__" 171 (.ref 4), eO P "__file__" 173 (.str "/claim/cut.py" 172), eO P "__cached__" 174 .none, eO P "Node" 226 (.ref 32), eO P "is_designator" 233 (.ref 43), eO P "root_var" 240 (.ref 50), eO P "is_readonly" 248 (.ref 57), eO P "same_type" 258 (.ref 64), eO P "is_integer" 265 (.ref 71), eO P "is_text" 272 (.ref 78), eO P "is_open" 279 (.ref 85), eO P "record_of" 286 (.ref 92), eO P "extends" 296 (.ref 99), eO P "equal_types" 304 (.ref 106), eO P "equal_procs" 315 (.ref 113), eO P "equal_arrays" 323 (.ref 120), eO P "assignable_string" 331 (.ref 127), eO P "assignable_proc" 339 (.ref 134), eO P "assignable" 348 (.ref 141), eO P "passable_variable" 358 (.ref 148), eO P "passable_structure" 368 (.ref 155), eO P "passable" 376 (.ref 162), eO P "Type" 420 (.ref 179), eO P "Obj" 465 (.ref 200), eO P "Types" 524 (.ref 236)]
noncomputable def o3_6 (P : Params) : Obj := ⟨.type "dict", none, .dict ⟨m6 P⟩ 31, #[]⟩
noncomputable def o12_6 (P : Params) : Obj := ⟨.none, none, .fields ⟨[(.int 2 0), (.int 0 0), (.ref 20), (.int 11 0), (.int 0 0), (.ref 42), (.int 15 0), (.int 0 0), (.ref 49), (.int 21 0), (.int 0 0), (.ref 56), (.int 25 0), (.int 0 0), (.ref 63), (.int 27 0), (.int 0 0), (.ref 70), (.int 29 0), (.int 0 0), (.ref 77), (.int 31 0), (.int 0 0), (.ref 84), (.int 33 0), (.int 0 0), (.ref 91), (.int 39 0), (.int 0 0), (.ref 98), (.int 51 0), (.int 0 0), (.ref 105), (.int 59 0), (.int 0 0), (.ref 112), (.int 70 0), (.int 0 0), (.ref 119), (.int 76 0), (.int 0 0), (.ref 126), (.int 84 0), (.int 0 0), (.ref 133), (.int 88 0), (.int 0 0), (.ref 140), (.int 103 0), (.int 0 0), (.ref 147), (.int 116 0), (.int 0 0), (.ref 154), (.int 127 0), (.int 0 0), (.ref 161), (.int 134 0), (.int 0 0), (.ref 168), (.int 149 0), (.int 0 0), (.ref 189), (.int 166 0), (.int 0 0), (.ref 210)]⟩, #[]⟩
noncomputable def m7 (P : Params) : List DictEntry := [eO P "__name__" 165 (.str "law_nu0331_01" 525), eO P "__doc__" 166 .none, eO P "__package__" 167 .none, eO P "__loader__" 168 (.builtin "__main__.__loader__#opaque"), eO P "__spec__" 169 .none, eO P "__annotations__" 170 (.ref 6), eO P "__builtins__" 171 (.ref 4), eO P "__file__" 173 (.str "/claim/cut.py" 172), eO P "__cached__" 174 .none, eO P "Node" 226 (.ref 32), eO P "is_designator" 233 (.ref 43), eO P "root_var" 240 (.ref 50), eO P "is_readonly" 248 (.ref 57), eO P "same_type" 258 (.ref 64), eO P "is_integer" 265 (.ref 71), eO P "is_text" 272 (.ref 78), eO P "is_open" 279 (.ref 85), eO P "record_of" 286 (.ref 92), eO P "extends" 296 (.ref 99), eO P "equal_types" 304 (.ref 106), eO P "equal_procs" 315 (.ref 113), eO P "equal_arrays" 323 (.ref 120), eO P "assignable_string" 331 (.ref 127), eO P "assignable_proc" 339 (.ref 134), eO P "assignable" 348 (.ref 141), eO P "passable_variable" 358 (.ref 148), eO P "passable_structure" 368 (.ref 155), eO P "passable" 376 (.ref 162), eO P "Type" 420 (.ref 179), eO P "Obj" 465 (.ref 200), eO P "Types" 524 (.ref 236), eO P "_law_pool" 539 (.ref 247), eO P "_law_pick" 548 (.ref 254), eO P "_law_world" 569 (.ref 261), eO P "_law_alike" 582 (.ref 268), eO P "_law_above" 593 (.ref 275), eO P "_law_node" 607 (.ref 282), eO P "_law_fits" 618 (.ref 289), eO P "law" 641 (.ref 296)]
noncomputable def o3_7 (P : Params) : Obj := ⟨.type "dict", none, .dict ⟨m7 P⟩ 39, #[]⟩
noncomputable def o12_7 (P : Params) : Obj := ⟨.none, none, .fields ⟨[(.int 2 0), (.int 0 0), (.ref 20), (.int 11 0), (.int 0 0), (.ref 42), (.int 15 0), (.int 0 0), (.ref 49), (.int 21 0), (.int 0 0), (.ref 56), (.int 25 0), (.int 0 0), (.ref 63), (.int 27 0), (.int 0 0), (.ref 70), (.int 29 0), (.int 0 0), (.ref 77), (.int 31 0), (.int 0 0), (.ref 84), (.int 33 0), (.int 0 0), (.ref 91), (.int 39 0), (.int 0 0), (.ref 98), (.int 51 0), (.int 0 0), (.ref 105), (.int 59 0), (.int 0 0), (.ref 112), (.int 70 0), (.int 0 0), (.ref 119), (.int 76 0), (.int 0 0), (.ref 126), (.int 84 0), (.int 0 0), (.ref 133), (.int 88 0), (.int 0 0), (.ref 140), (.int 103 0), (.int 0 0), (.ref 147), (.int 116 0), (.int 0 0), (.ref 154), (.int 127 0), (.int 0 0), (.ref 161), (.int 134 0), (.int 0 0), (.ref 168), (.int 149 0), (.int 0 0), (.ref 189), (.int 166 0), (.int 0 0), (.ref 210), (.int 194 0), (.int 0 0), (.ref 246), (.int 209 0), (.int 0 0), (.ref 253), (.int 219 0), (.int 0 0), (.ref 260), (.int 256 0), (.int 0 0), (.ref 267), (.int 270 0), (.int 0 0), (.ref 274), (.int 281 0), (.int 0 0), (.ref 281), (.int 294 0), (.int 0 0), (.ref 288), (.int 301 0), (.int 0 0), (.ref 295)]⟩, #[]⟩
noncomputable def T0 (P : Params) : BT := .node (boot_o_0 P) (.node (boot_o_1 P) (.node (o3_0 P) (.node (boot_o_7 P) .nil .nil) (.node (o11 P) .nil .nil)) (.node (boot_o_5 P) (.node (boot_o_9 P) .nil .nil) (.node (o13 P) .nil .nil))) (.node (boot_o_2 P) (.node (boot_o_4 P) (.node (boot_o_8 P) .nil .nil) (.node (o12_0 P) .nil .nil)) (.node (boot_o_6 P) (.node (boot_o_10 P) .nil .nil) (.node (o14 P) .nil .nil)))
noncomputable def T1 (P : Params) : BT := .node (boot_o_0 P) (.node (boot_o_1 P) (.node (o3_1 P) (.node (boot_o_7 P) (.node (o15 P) (.node (o31 P) .nil .nil) (.node (o47 P) .nil .nil)) (.node (o23 P) (.node (o39 P) .nil .nil) (.node (o55 P) .nil .nil))) (.node (o11 P) (.node (o19 P) (.node (o35 P) .nil .nil) (.node (o51 P) .nil .nil)) (.node (o27 P) (.node (o43 P) .nil .nil) .nil))) (.node (boot_o_5 P) (.node (boot_o_9 P) (.node (o17 P) (.node (o33 P) .nil .nil) (.node (o49 P) .nil .nil)) (.node (o25 P) (.node (o41 P) .nil .nil) (.node (o57 P) .nil .nil))) (.node (o13 P) (.node (o21 P) (.node (o37 P) .nil .nil) (.node (o53 P) .nil .nil)) (.node (o29 P) (.node (o45 P) .nil .nil) .nil)))) (.node (boot_o_2 P) (.node (boot_o_4 P) (.node (boot_o_8 P) (.node (o16 P) (.node (o32 P) .nil .nil) (.node (o48 P) .nil .nil)) (.node (o24 P) (.node (o40 P) .nil .nil) (.node (o56 P) .nil .nil))) (.node (o12_1 P) (.node (o20 P) (.node (o36 P) .nil .nil) (.node (o52 P) .nil .nil)) (.node (o28 P) (.node (o44 P) .nil .nil) .nil))) (.node (boot_o_6 P) (.node (boot_o_10 P) (.node (o18 P) (.node (o34 P) .nil .nil) (.node (o50 P) .nil .nil)) (.node (o26 P) (.node (o42 P) .nil .nil) .nil)) (.node (o14 P) (.node (o22 P) (.node (o38 P) .nil .nil) (.node (o54 P) .nil .nil)) (.node (o30 P) (.node (o46 P) .nil .nil) .nil))))
noncomputable def T2 (P : Params) : BT := .node (boot_o_0 P) (.node (boot_o_1 P) (.node (o3_2 P) (.node (boot_o_7 P) (.node (o15 P) (.node (o31 P) (.node (o63 P) .nil .nil) (.node (o95 P) .nil .nil)) (.node (o47 P) (.node (o79 P) .nil .nil) (.node (o111 P) .nil .nil))) (.node (o23 P) (.node (o39 P) (.node (o71 P) .nil .nil) (.node (o103 P) .nil .nil)) (.node (o55 P) (.node (o87 P) .nil .nil) (.node (o119 P) .nil .nil)))) (.node (o11 P) (.node (o19 P) (.node (o35 P) (.node (o67 P) .nil .nil) (.node (o99 P) .nil .nil)) (.node (o51 P) (.node (o83 P) .nil .nil) (.node (o115 P) .nil .nil))) (.node (o27 P) (.node (o43 P) (.node (o75 P) .nil .nil) (.node (o107 P) .nil .nil)) (.node (o59 P) (.node (o91 P) .nil .nil) .nil)))) (.node (boot_o_5 P) (.node (boot_o_9 P) (.node (o17 P) (.node (o33 P) (.node (o65 P) .nil .nil) (.node (o97 P) .nil .nil)) (.node (o49 P) (.node (o81 P) .nil .nil) (.node (o113 P) .nil .nil))) (.node (o25 P) (.node (o41 P) (.node (o73 P) .nil .nil) (.node (o105 P) .nil .nil)) (.node (o57 P) (.node (o89 P) .nil .nil) .nil))) (.node (o13 P) (.node (o21 P) (.node (o37 P) (.node (o69 P) .nil .nil) (.node (o101 P) .nil .nil)) (.node (o53 P) (.node (o85 P) .nil .nil) (.node (o117 P) .nil .nil))) (.node (o29 P) (.node (o45 P) (.node (o77 P) .nil .nil) (.node (o109 P) .nil .nil)) (.node (o61 P) (.node (o93 P) .nil .nil) .nil))))) (.node (boot_o_2 P) (.node (boot_o_4 P) (.node (boot_o_8 P) (.node (o16 P) (.node (o32 P) (.node (o64 P) .nil .nil) (.node (o96 P) .nil .nil)) (.node (o48 P) (.node (o80 P) .nil .nil) (.node (o112 P) .nil .nil))) (.node (o24 P) (.node (o40 P) (.node (o72 P) .nil .nil) (.node (o104 P) .nil .nil)) (.node (o56 P) (.node (o88 P) .nil .nil) (.node (o120 P) .nil .nil)))) (.node (o12_2 P) (.node (o20 P) (.node (o36 P) (.node (o68 P) .nil .nil) (.node (o100 P) .nil .nil)) (.node (o52 P) (.node (o84 P) .nil .nil) (.node (o116 P) .nil .nil))) (.node (o28 P) (.node (o44 P) (.node (o76 P) .nil .nil) (.node (o108 P) .nil .nil)) (.node (o60 P) (.node (o92 P) .nil .nil) .nil)))) (.node (boot_o_6 P) (.node (boot_o_10 P) (.node (o18 P) (.node (o34 P) (.node (o66 P) .nil .nil) (.node (o98 P) .nil .nil)) (.node (o50 P) (.node (o82 P) .nil .nil) (.node (o114 P) .nil .nil))) (.node (o26 P) (.node (o42 P) (.node (o74 P) .nil .nil) (.node (o106 P) .nil .nil)) (.node (o58 P) (.node (o90 P) .nil .nil) .nil))) (.node (o14 P) (.node (o22 P) (.node (o38 P) (.node (o70 P) .nil .nil) (.node (o102 P) .nil .nil)) (.node (o54 P) (.node (o86 P) .nil .nil) (.node (o118 P) .nil .nil))) (.node (o30 P) (.node (o46 P) (.node (o78 P) .nil .nil) (.node (o110 P) .nil .nil)) (.node (o62 P) (.node (o94 P) .nil .nil) .nil)))))
noncomputable def T3 (P : Params) : BT := .node (boot_o_0 P) (.node (boot_o_1 P) (.node (o3_3 P) (.node (boot_o_7 P) (.node (o15 P) (.node (o31 P) (.node (o63 P) (.node (o127 P) .nil .nil) .nil) (.node (o95 P) (.node (o159 P) .nil .nil) .nil)) (.node (o47 P) (.node (o79 P) (.node (o143 P) .nil .nil) .nil) (.node (o111 P) .nil .nil))) (.node (o23 P) (.node (o39 P) (.node (o71 P) (.node (o135 P) .nil .nil) .nil) (.node (o103 P) .nil .nil)) (.node (o55 P) (.node (o87 P) (.node (o151 P) .nil .nil) .nil) (.node (o119 P) .nil .nil)))) (.node (o11 P) (.node (o19 P) (.node (o35 P) (.node (o67 P) (.node (o131 P) .nil .nil) .nil) (.node (o99 P) .nil .nil)) (.node (o51 P) (.node (o83 P) (.node (o147 P) .nil .nil) .nil) (.node (o115 P) .nil .nil))) (.node (o27 P) (.node (o43 P) (.node (o75 P) (.node (o139 P) .nil .nil) .nil) (.node (o107 P) .nil .nil)) (.node (o59 P) (.node (o91 P) (.node (o155 P) .nil .nil) .nil) (.node (o123 P) .nil .nil))))) (.node (boot_o_5 P) (.node (boot_o_9 P) (.node (o17 P) (.node (o33 P) (.node (o65 P) (.node (o129 P) .nil .nil) .nil) (.node (o97 P) (.node (o161 P) .nil .nil) .nil)) (.node (o49 P) (.node (o81 P) (.node (o145 P) .nil .nil) .nil) (.node (o113 P) .nil .nil))) (.node (o25 P) (.node (o41 P) (.node (o73 P) (.node (o137 P) .nil .nil) .nil) (.node (o105 P) .nil .nil)) (.node (o57 P) (.node (o89 P) (.node (o153 P) .nil .nil) .nil) (.node (o121 P) .nil .nil)))) (.node (o13 P) (.node (o21 P) (.node (o37 P) (.node (o69 P) (.node (o133 P) .nil .nil) .nil) (.node (o101 P) .nil .nil)) (.node (o53 P) (.node (o85 P) (.node (o149 P) .nil .nil) .nil) (.node (o117 P) .nil .nil))) (.node (o29 P) (.node (o45 P) (.node (o77 P) (.node (o141 P) .nil .nil) .nil) (.node (o109 P) .nil .nil)) (.node (o61 P) (.node (o93 P) (.node (o157 P) .nil .nil) .nil) (.node (o125 P) .nil .nil)))))) (.node (boot_o_2 P) (.node (boot_o_4 P) (.node (boot_o_8 P) (.node (o16 P) (.node (o32 P) (.node (o64 P) (.node (o128 P) .nil .nil) .nil) (.node (o96 P) (.node (o160 P) .nil .nil) .nil)) (.node (o48 P) (.node (o80 P) (.node (o144 P) .nil .nil) .nil) (.node (o112 P) .nil .nil))) (.node (o24 P) (.node (o40 P) (.node (o72 P) (.node (o136 P) .nil .nil) .nil) (.node (o104 P) .nil .nil)) (.node (o56 P) (.node (o88 P) (.node (o152 P) .nil .nil) .nil) (.node (o120 P) .nil .nil)))) (.node (o12_3 P) (.node (o20 P) (.node (o36 P) (.node (o68 P) (.node (o132 P) .nil .nil) .nil) (.node (o100 P) .nil .nil)) (.node (o52 P) (.node (o84 P) (.node (o148 P) .nil .nil) .nil) (.node (o116 P) .nil .nil))) (.node (o28 P) (.node (o44 P) (.node (o76 P) (.node (o140 P) .nil .nil) .nil) (.node (o108 P) .nil .nil)) (.node (o60 P) (.node (o92 P) (.node (o156 P) .nil .nil) .nil) (.node (o124 P) .nil .nil))))) (.node (boot_o_6 P) (.node (boot_o_10 P) (.node (o18 P) (.node (o34 P) (.node (o66 P) (.node (o130 P) .nil .nil) .nil) (.node (o98 P) (.node (o162 P) .nil .nil) .nil)) (.node (o50 P) (.node (o82 P) (.node (o146 P) .nil .nil) .nil) (.node (o114 P) .nil .nil))) (.node (o26 P) (.node (o42 P) (.node (o74 P) (.node (o138 P) .nil .nil) .nil) (.node (o106 P) .nil .nil)) (.node (o58 P) (.node (o90 P) (.node (o154 P) .nil .nil) .nil) (.node (o122 P) .nil .nil)))) (.node (o14 P) (.node (o22 P) (.node (o38 P) (.node (o70 P) (.node (o134 P) .nil .nil) .nil) (.node (o102 P) .nil .nil)) (.node (o54 P) (.node (o86 P) (.node (o150 P) .nil .nil) .nil) (.node (o118 P) .nil .nil))) (.node (o30 P) (.node (o46 P) (.node (o78 P) (.node (o142 P) .nil .nil) .nil) (.node (o110 P) .nil .nil)) (.node (o62 P) (.node (o94 P) (.node (o158 P) .nil .nil) .nil) (.node (o126 P) .nil .nil))))))
noncomputable def T4 (P : Params) : BT := .node (boot_o_0 P) (.node (boot_o_1 P) (.node (o3_4 P) (.node (boot_o_7 P) (.node (o15 P) (.node (o31 P) (.node (o63 P) (.node (o127 P) .nil .nil) .nil) (.node (o95 P) (.node (o159 P) .nil .nil) .nil)) (.node (o47 P) (.node (o79 P) (.node (o143 P) .nil .nil) .nil) (.node (o111 P) (.node (o175 P) .nil .nil) .nil))) (.node (o23 P) (.node (o39 P) (.node (o71 P) (.node (o135 P) .nil .nil) .nil) (.node (o103 P) (.node (o167 P) .nil .nil) .nil)) (.node (o55 P) (.node (o87 P) (.node (o151 P) .nil .nil) .nil) (.node (o119 P) (.node (o183 P) .nil .nil) .nil)))) (.node (o11 P) (.node (o19 P) (.node (o35 P) (.node (o67 P) (.node (o131 P) .nil .nil) .nil) (.node (o99 P) (.node (o163 P) .nil .nil) .nil)) (.node (o51 P) (.node (o83 P) (.node (o147 P) .nil .nil) .nil) (.node (o115 P) (.node (o179 P) .nil .nil) .nil))) (.node (o27 P) (.node (o43 P) (.node (o75 P) (.node (o139 P) .nil .nil) .nil) (.node (o107 P) (.node (o171 P) .nil .nil) .nil)) (.node (o59 P) (.node (o91 P) (.node (o155 P) .nil .nil) .nil) (.node (o123 P) .nil .nil))))) (.node (boot_o_5 P) (.node (boot_o_9 P) (.node (o17 P) (.node (o33 P) (.node (o65 P) (.node (o129 P) .nil .nil) .nil) (.node (o97 P) (.node (o161 P) .nil .nil) .nil)) (.node (o49 P) (.node (o81 P) (.node (o145 P) .nil .nil) .nil) (.node (o113 P) (.node (o177 P) .nil .nil) .nil))) (.node (o25 P) (.node (o41 P) (.node (o73 P) (.node (o137 P) .nil .nil) .nil) (.node (o105 P) (.node (o169 P) .nil .nil) .nil)) (.node (o57 P) (.node (o89 P) (.node (o153 P) .nil .nil) .nil) (.node (o121 P) .nil .nil)))) (.node (o13 P) (.node (o21 P) (.node (o37 P) (.node (o69 P) (.node (o133 P) .nil .nil) .nil) (.node (o101 P) (.node (o165 P) .nil .nil) .nil)) (.node (o53 P) (.node (o85 P) (.node (o149 P) .nil .nil) .nil) (.node (o117 P) (.node (o181 P) .nil .nil) .nil))) (.node (o29 P) (.node (o45 P) (.node (o77 P) (.node (o141 P) .nil .nil) .nil) (.node (o109 P) (.node (o173 P) .nil .nil) .nil)) (.node (o61 P) (.node (o93 P) (.node (o157 P) .nil .nil) .nil) (.node (o125 P) .nil .nil)))))) (.node (boot_o_2 P) (.node (boot_o_4 P) (.node (boot_o_8 P) (.node (o16 P) (.node (o32 P) (.node (o64 P) (.node (o128 P) .nil .nil) .nil) (.node (o96 P) (.node (o160 P) .nil .nil) .nil)) (.node (o48 P) (.node (o80 P) (.node (o144 P) .nil .nil) .nil) (.node (o112 P) (.node (o176 P) .nil .nil) .nil))) (.node (o24 P) (.node (o40 P) (.node (o72 P) (.node (o136 P) .nil .nil) .nil) (.node (o104 P) (.node (o168 P) .nil .nil) .nil)) (.node (o56 P) (.node (o88 P) (.node (o152 P) .nil .nil) .nil) (.node (o120 P) .nil .nil)))) (.node (o12_4 P) (.node (o20 P) (.node (o36 P) (.node (o68 P) (.node (o132 P) .nil .nil) .nil) (.node (o100 P) (.node (o164 P) .nil .nil) .nil)) (.node (o52 P) (.node (o84 P) (.node (o148 P) .nil .nil) .nil) (.node (o116 P) (.node (o180 P) .nil .nil) .nil))) (.node (o28 P) (.node (o44 P) (.node (o76 P) (.node (o140 P) .nil .nil) .nil) (.node (o108 P) (.node (o172 P) .nil .nil) .nil)) (.node (o60 P) (.node (o92 P) (.node (o156 P) .nil .nil) .nil) (.node (o124 P) .nil .nil))))) (.node (boot_o_6 P) (.node (boot_o_10 P) (.node (o18 P) (.node (o34 P) (.node (o66 P) (.node (o130 P) .nil .nil) .nil) (.node (o98 P) (.node (o162 P) .nil .nil) .nil)) (.node (o50 P) (.node (o82 P) (.node (o146 P) .nil .nil) .nil) (.node (o114 P) (.node (o178 P) .nil .nil) .nil))) (.node (o26 P) (.node (o42 P) (.node (o74 P) (.node (o138 P) .nil .nil) .nil) (.node (o106 P) (.node (o170 P) .nil .nil) .nil)) (.node (o58 P) (.node (o90 P) (.node (o154 P) .nil .nil) .nil) (.node (o122 P) .nil .nil)))) (.node (o14 P) (.node (o22 P) (.node (o38 P) (.node (o70 P) (.node (o134 P) .nil .nil) .nil) (.node (o102 P) (.node (o166 P) .nil .nil) .nil)) (.node (o54 P) (.node (o86 P) (.node (o150 P) .nil .nil) .nil) (.node (o118 P) (.node (o182 P) .nil .nil) .nil))) (.node (o30 P) (.node (o46 P) (.node (o78 P) (.node (o142 P) .nil .nil) .nil) (.node (o110 P) (.node (o174 P) .nil .nil) .nil)) (.node (o62 P) (.node (o94 P) (.node (o158 P) .nil .nil) .nil) (.node (o126 P) .nil .nil))))))
noncomputable def T5 (P : Params) : BT := .node (boot_o_0 P) (.node (boot_o_1 P) (.node (o3_5 P) (.node (boot_o_7 P) (.node (o15 P) (.node (o31 P) (.node (o63 P) (.node (o127 P) .nil .nil) (.node (o191 P) .nil .nil)) (.node (o95 P) (.node (o159 P) .nil .nil) .nil)) (.node (o47 P) (.node (o79 P) (.node (o143 P) .nil .nil) .nil) (.node (o111 P) (.node (o175 P) .nil .nil) .nil))) (.node (o23 P) (.node (o39 P) (.node (o71 P) (.node (o135 P) .nil .nil) (.node (o199 P) .nil .nil)) (.node (o103 P) (.node (o167 P) .nil .nil) .nil)) (.node (o55 P) (.node (o87 P) (.node (o151 P) .nil .nil) .nil) (.node (o119 P) (.node (o183 P) .nil .nil) .nil)))) (.node (o11 P) (.node (o19 P) (.node (o35 P) (.node (o67 P) (.node (o131 P) .nil .nil) (.node (o195 P) .nil .nil)) (.node (o99 P) (.node (o163 P) .nil .nil) .nil)) (.node (o51 P) (.node (o83 P) (.node (o147 P) .nil .nil) .nil) (.node (o115 P) (.node (o179 P) .nil .nil) .nil))) (.node (o27 P) (.node (o43 P) (.node (o75 P) (.node (o139 P) .nil .nil) (.node (o203 P) .nil .nil)) (.node (o107 P) (.node (o171 P) .nil .nil) .nil)) (.node (o59 P) (.node (o91 P) (.node (o155 P) .nil .nil) .nil) (.node (o123 P) (.node (o187 P) .nil .nil) .nil))))) (.node (boot_o_5 P) (.node (boot_o_9 P) (.node (o17 P) (.node (o33 P) (.node (o65 P) (.node (o129 P) .nil .nil) (.node (o193 P) .nil .nil)) (.node (o97 P) (.node (o161 P) .nil .nil) .nil)) (.node (o49 P) (.node (o81 P) (.node (o145 P) .nil .nil) .nil) (.node (o113 P) (.node (o177 P) .nil .nil) .nil))) (.node (o25 P) (.node (o41 P) (.node (o73 P) (.node (o137 P) .nil .nil) (.node (o201 P) .nil .nil)) (.node (o105 P) (.node (o169 P) .nil .nil) .nil)) (.node (o57 P) (.node (o89 P) (.node (o153 P) .nil .nil) .nil) (.node (o121 P) (.node (o185 P) .nil .nil) .nil)))) (.node (o13 P) (.node (o21 P) (.node (o37 P) (.node (o69 P) (.node (o133 P) .nil .nil) (.node (o197 P) .nil .nil)) (.node (o101 P) (.node (o165 P) .nil .nil) .nil)) (.node (o53 P) (.node (o85 P) (.node (o149 P) .nil .nil) .nil) (.node (o117 P) (.node (o181 P) .nil .nil) .nil))) (.node (o29 P) (.node (o45 P) (.node (o77 P) (.node (o141 P) .nil .nil) .nil) (.node (o109 P) (.node (o173 P) .nil .nil) .nil)) (.node (o61 P) (.node (o93 P) (.node (o157 P) .nil .nil) .nil) (.node (o125 P) (.node (o189 P) .nil .nil) .nil)))))) (.node (boot_o_2 P) (.node (boot_o_4 P) (.node (boot_o_8 P) (.node (o16 P) (.node (o32 P) (.node (o64 P) (.node (o128 P) .nil .nil) (.node (o192 P) .nil .nil)) (.node (o96 P) (.node (o160 P) .nil .nil) .nil)) (.node (o48 P) (.node (o80 P) (.node (o144 P) .nil .nil) .nil) (.node (o112 P) (.node (o176 P) .nil .nil) .nil))) (.node (o24 P) (.node (o40 P) (.node (o72 P) (.node (o136 P) .nil .nil) (.node (o200 P) .nil .nil)) (.node (o104 P) (.node (o168 P) .nil .nil) .nil)) (.node (o56 P) (.node (o88 P) (.node (o152 P) .nil .nil) .nil) (.node (o120 P) (.node (o184 P) .nil .nil) .nil)))) (.node (o12_5 P) (.node (o20 P) (.node (o36 P) (.node (o68 P) (.node (o132 P) .nil .nil) (.node (o196 P) .nil .nil)) (.node (o100 P) (.node (o164 P) .nil .nil) .nil)) (.node (o52 P) (.node (o84 P) (.node (o148 P) .nil .nil) .nil) (.node (o116 P) (.node (o180 P) .nil .nil) .nil))) (.node (o28 P) (.node (o44 P) (.node (o76 P) (.node (o140 P) .nil .nil) (.node (o204 P) .nil .nil)) (.node (o108 P) (.node (o172 P) .nil .nil) .nil)) (.node (o60 P) (.node (o92 P) (.node (o156 P) .nil .nil) .nil) (.node (o124 P) (.node (o188 P) .nil .nil) .nil))))) (.node (boot_o_6 P) (.node (boot_o_10 P) (.node (o18 P) (.node (o34 P) (.node (o66 P) (.node (o130 P) .nil .nil) (.node (o194 P) .nil .nil)) (.node (o98 P) (.node (o162 P) .nil .nil) .nil)) (.node (o50 P) (.node (o82 P) (.node (o146 P) .nil .nil) .nil) (.node (o114 P) (.node (o178 P) .nil .nil) .nil))) (.node (o26 P) (.node (o42 P) (.node (o74 P) (.node (o138 P) .nil .nil) (.node (o202 P) .nil .nil)) (.node (o106 P) (.node (o170 P) .nil .nil) .nil)) (.node (o58 P) (.node (o90 P) (.node (o154 P) .nil .nil) .nil) (.node (o122 P) (.node (o186 P) .nil .nil) .nil)))) (.node (o14 P) (.node (o22 P) (.node (o38 P) (.node (o70 P) (.node (o134 P) .nil .nil) (.node (o198 P) .nil .nil)) (.node (o102 P) (.node (o166 P) .nil .nil) .nil)) (.node (o54 P) (.node (o86 P) (.node (o150 P) .nil .nil) .nil) (.node (o118 P) (.node (o182 P) .nil .nil) .nil))) (.node (o30 P) (.node (o46 P) (.node (o78 P) (.node (o142 P) .nil .nil) .nil) (.node (o110 P) (.node (o174 P) .nil .nil) .nil)) (.node (o62 P) (.node (o94 P) (.node (o158 P) .nil .nil) .nil) (.node (o126 P) (.node (o190 P) .nil .nil) .nil))))))
noncomputable def T6 (P : Params) : BT := .node (boot_o_0 P) (.node (boot_o_1 P) (.node (o3_6 P) (.node (boot_o_7 P) (.node (o15 P) (.node (o31 P) (.node (o63 P) (.node (o127 P) .nil .nil) (.node (o191 P) .nil .nil)) (.node (o95 P) (.node (o159 P) .nil .nil) (.node (o223 P) .nil .nil))) (.node (o47 P) (.node (o79 P) (.node (o143 P) .nil .nil) (.node (o207 P) .nil .nil)) (.node (o111 P) (.node (o175 P) .nil .nil) (.node (o239 P) .nil .nil)))) (.node (o23 P) (.node (o39 P) (.node (o71 P) (.node (o135 P) .nil .nil) (.node (o199 P) .nil .nil)) (.node (o103 P) (.node (o167 P) .nil .nil) (.node (o231 P) .nil .nil))) (.node (o55 P) (.node (o87 P) (.node (o151 P) .nil .nil) (.node (o215 P) .nil .nil)) (.node (o119 P) (.node (o183 P) .nil .nil) .nil)))) (.node (o11 P) (.node (o19 P) (.node (o35 P) (.node (o67 P) (.node (o131 P) .nil .nil) (.node (o195 P) .nil .nil)) (.node (o99 P) (.node (o163 P) .nil .nil) (.node (o227 P) .nil .nil))) (.node (o51 P) (.node (o83 P) (.node (o147 P) .nil .nil) (.node (o211 P) .nil .nil)) (.node (o115 P) (.node (o179 P) .nil .nil) .nil))) (.node (o27 P) (.node (o43 P) (.node (o75 P) (.node (o139 P) .nil .nil) (.node (o203 P) .nil .nil)) (.node (o107 P) (.node (o171 P) .nil .nil) (.node (o235 P) .nil .nil))) (.node (o59 P) (.node (o91 P) (.node (o155 P) .nil .nil) (.node (o219 P) .nil .nil)) (.node (o123 P) (.node (o187 P) .nil .nil) .nil))))) (.node (boot_o_5 P) (.node (boot_o_9 P) (.node (o17 P) (.node (o33 P) (.node (o65 P) (.node (o129 P) .nil .nil) (.node (o193 P) .nil .nil)) (.node (o97 P) (.node (o161 P) .nil .nil) (.node (o225 P) .nil .nil))) (.node (o49 P) (.node (o81 P) (.node (o145 P) .nil .nil) (.node (o209 P) .nil .nil)) (.node (o113 P) (.node (o177 P) .nil .nil) .nil))) (.node (o25 P) (.node (o41 P) (.node (o73 P) (.node (o137 P) .nil .nil) (.node (o201 P) .nil .nil)) (.node (o105 P) (.node (o169 P) .nil .nil) (.node (o233 P) .nil .nil))) (.node (o57 P) (.node (o89 P) (.node (o153 P) .nil .nil) (.node (o217 P) .nil .nil)) (.node (o121 P) (.node (o185 P) .nil .nil) .nil)))) (.node (o13 P) (.node (o21 P) (.node (o37 P) (.node (o69 P) (.node (o133 P) .nil .nil) (.node (o197 P) .nil .nil)) (.node (o101 P) (.node (o165 P) .nil .nil) (.node (o229 P) .nil .nil))) (.node (o53 P) (.node (o85 P) (.node (o149 P) .nil .nil) (.node (o213 P) .nil .nil)) (.node (o117 P) (.node (o181 P) .nil .nil) .nil))) (.node (o29 P) (.node (o45 P) (.node (o77 P) (.node (o141 P) .nil .nil) (.node (o205 P) .nil .nil)) (.node (o109 P) (.node (o173 P) .nil .nil) (.node (o237 P) .nil .nil))) (.node (o61 P) (.node (o93 P) (.node (o157 P) .nil .nil) (.node (o221 P) .nil .nil)) (.node (o125 P) (.node (o189 P) .nil .nil) .nil)))))) (.node (boot_o_2 P) (.node (boot_o_4 P) (.node (boot_o_8 P) (.node (o16 P) (.node (o32 P) (.node (o64 P) (.node (o128 P) .nil .nil) (.node (o192 P) .nil .nil)) (.node (o96 P) (.node (o160 P) .nil .nil) (.node (o224 P) .nil .nil))) (.node (o48 P) (.node (o80 P) (.node (o144 P) .nil .nil) (.node (o208 P) .nil .nil)) (.node (o112 P) (.node (o176 P) .nil .nil) (.node (o240 P) .nil .nil)))) (.node (o24 P) (.node (o40 P) (.node (o72 P) (.node (o136 P) .nil .nil) (.node (o200 P) .nil .nil)) (.node (o104 P) (.node (o168 P) .nil .nil) (.node (o232 P) .nil .nil))) (.node (o56 P) (.node (o88 P) (.node (o152 P) .nil .nil) (.node (o216 P) .nil .nil)) (.node (o120 P) (.node (o184 P) .nil .nil) .nil)))) (.node (o12_6 P) (.node (o20 P) (.node (o36 P) (.node (o68 P) (.node (o132 P) .nil .nil) (.node (o196 P) .nil .nil)) (.node (o100 P) (.node (o164 P) .nil .nil) (.node (o228 P) .nil .nil))) (.node (o52 P) (.node (o84 P) (.node (o148 P) .nil .nil) (.node (o212 P) .nil .nil)) (.node (o116 P) (.node (o180 P) .nil .nil) .nil))) (.node (o28 P) (.node (o44 P) (.node (o76 P) (.node (o140 P) .nil .nil) (.node (o204 P) .nil .nil)) (.node (o108 P) (.node (o172 P) .nil .nil) (.node (o236 P) .nil .nil))) (.node (o60 P) (.node (o92 P) (.node (o156 P) .nil .nil) (.node (o220 P) .nil .nil)) (.node (o124 P) (.node (o188 P) .nil .nil) .nil))))) (.node (boot_o_6 P) (.node (boot_o_10 P) (.node (o18 P) (.node (o34 P) (.node (o66 P) (.node (o130 P) .nil .nil) (.node (o194 P) .nil .nil)) (.node (o98 P) (.node (o162 P) .nil .nil) (.node (o226 P) .nil .nil))) (.node (o50 P) (.node (o82 P) (.node (o146 P) .nil .nil) (.node (o210 P) .nil .nil)) (.node (o114 P) (.node (o178 P) .nil .nil) .nil))) (.node (o26 P) (.node (o42 P) (.node (o74 P) (.node (o138 P) .nil .nil) (.node (o202 P) .nil .nil)) (.node (o106 P) (.node (o170 P) .nil .nil) (.node (o234 P) .nil .nil))) (.node (o58 P) (.node (o90 P) (.node (o154 P) .nil .nil) (.node (o218 P) .nil .nil)) (.node (o122 P) (.node (o186 P) .nil .nil) .nil)))) (.node (o14 P) (.node (o22 P) (.node (o38 P) (.node (o70 P) (.node (o134 P) .nil .nil) (.node (o198 P) .nil .nil)) (.node (o102 P) (.node (o166 P) .nil .nil) (.node (o230 P) .nil .nil))) (.node (o54 P) (.node (o86 P) (.node (o150 P) .nil .nil) (.node (o214 P) .nil .nil)) (.node (o118 P) (.node (o182 P) .nil .nil) .nil))) (.node (o30 P) (.node (o46 P) (.node (o78 P) (.node (o142 P) .nil .nil) (.node (o206 P) .nil .nil)) (.node (o110 P) (.node (o174 P) .nil .nil) (.node (o238 P) .nil .nil))) (.node (o62 P) (.node (o94 P) (.node (o158 P) .nil .nil) (.node (o222 P) .nil .nil)) (.node (o126 P) (.node (o190 P) .nil .nil) .nil))))))
noncomputable def T7 (P : Params) : BT := .node (boot_o_0 P) (.node (boot_o_1 P) (.node (o3_7 P) (.node (boot_o_7 P) (.node (o15 P) (.node (o31 P) (.node (o63 P) (.node (o127 P) (.node (o255 P) .nil .nil) .nil) (.node (o191 P) .nil .nil)) (.node (o95 P) (.node (o159 P) (.node (o287 P) .nil .nil) .nil) (.node (o223 P) .nil .nil))) (.node (o47 P) (.node (o79 P) (.node (o143 P) (.node (o271 P) .nil .nil) .nil) (.node (o207 P) .nil .nil)) (.node (o111 P) (.node (o175 P) .nil .nil) (.node (o239 P) .nil .nil)))) (.node (o23 P) (.node (o39 P) (.node (o71 P) (.node (o135 P) (.node (o263 P) .nil .nil) .nil) (.node (o199 P) .nil .nil)) (.node (o103 P) (.node (o167 P) (.node (o295 P) .nil .nil) .nil) (.node (o231 P) .nil .nil))) (.node (o55 P) (.node (o87 P) (.node (o151 P) (.node (o279 P) .nil .nil) .nil) (.node (o215 P) .nil .nil)) (.node (o119 P) (.node (o183 P) .nil .nil) (.node (o247 P) .nil .nil))))) (.node (o11 P) (.node (o19 P) (.node (o35 P) (.node (o67 P) (.node (o131 P) (.node (o259 P) .nil .nil) .nil) (.node (o195 P) .nil .nil)) (.node (o99 P) (.node (o163 P) (.node (o291 P) .nil .nil) .nil) (.node (o227 P) .nil .nil))) (.node (o51 P) (.node (o83 P) (.node (o147 P) (.node (o275 P) .nil .nil) .nil) (.node (o211 P) .nil .nil)) (.node (o115 P) (.node (o179 P) .nil .nil) (.node (o243 P) .nil .nil)))) (.node (o27 P) (.node (o43 P) (.node (o75 P) (.node (o139 P) (.node (o267 P) .nil .nil) .nil) (.node (o203 P) .nil .nil)) (.node (o107 P) (.node (o171 P) .nil .nil) (.node (o235 P) .nil .nil))) (.node (o59 P) (.node (o91 P) (.node (o155 P) (.node (o283 P) .nil .nil) .nil) (.node (o219 P) .nil .nil)) (.node (o123 P) (.node (o187 P) .nil .nil) (.node (o251 P) .nil .nil)))))) (.node (boot_o_5 P) (.node (boot_o_9 P) (.node (o17 P) (.node (o33 P) (.node (o65 P) (.node (o129 P) (.node (o257 P) .nil .nil) .nil) (.node (o193 P) .nil .nil)) (.node (o97 P) (.node (o161 P) (.node (o289 P) .nil .nil) .nil) (.node (o225 P) .nil .nil))) (.node (o49 P) (.node (o81 P) (.node (o145 P) (.node (o273 P) .nil .nil) .nil) (.node (o209 P) .nil .nil)) (.node (o113 P) (.node (o177 P) .nil .nil) (.node (o241 P) .nil .nil)))) (.node (o25 P) (.node (o41 P) (.node (o73 P) (.node (o137 P) (.node (o265 P) .nil .nil) .nil) (.node (o201 P) .nil .nil)) (.node (o105 P) (.node (o169 P) .nil .nil) (.node (o233 P) .nil .nil))) (.node (o57 P) (.node (o89 P) (.node (o153 P) (.node (o281 P) .nil .nil) .nil) (.node (o217 P) .nil .nil)) (.node (o121 P) (.node (o185 P) .nil .nil) (.node (o249 P) .nil .nil))))) (.node (o13 P) (.node (o21 P) (.node (o37 P) (.node (o69 P) (.node (o133 P) (.node (o261 P) .nil .nil) .nil) (.node (o197 P) .nil .nil)) (.node (o101 P) (.node (o165 P) (.node (o293 P) .nil .nil) .nil) (.node (o229 P) .nil .nil))) (.node (o53 P) (.node (o85 P) (.node (o149 P) (.node (o277 P) .nil .nil) .nil) (.node (o213 P) .nil .nil)) (.node (o117 P) (.node (o181 P) .nil .nil) (.node (o245 P) .nil .nil)))) (.node (o29 P) (.node (o45 P) (.node (o77 P) (.node (o141 P) (.node (o269 P) .nil .nil) .nil) (.node (o205 P) .nil .nil)) (.node (o109 P) (.node (o173 P) .nil .nil) (.node (o237 P) .nil .nil))) (.node (o61 P) (.node (o93 P) (.node (o157 P) (.node (o285 P) .nil .nil) .nil) (.node (o221 P) .nil .nil)) (.node (o125 P) (.node (o189 P) .nil .nil) (.node (o253 P) .nil .nil))))))) (.node (boot_o_2 P) (.node (boot_o_4 P) (.node (boot_o_8 P) (.node (o16 P) (.node (o32 P) (.node (o64 P) (.node (o128 P) (.node (o256 P) .nil .nil) .nil) (.node (o192 P) .nil .nil)) (.node (o96 P) (.node (o160 P) (.node (o288 P) .nil .nil) .nil) (.node (o224 P) .nil .nil))) (.node (o48 P) (.node (o80 P) (.node (o144 P) (.node (o272 P) .nil .nil) .nil) (.node (o208 P) .nil .nil)) (.node (o112 P) (.node (o176 P) .nil .nil) (.node (o240 P) .nil .nil)))) (.node (o24 P) (.node (o40 P) (.node (o72 P) (.node (o136 P) (.node (o264 P) .nil .nil) .nil) (.node (o200 P) .nil .nil)) (.node (o104 P) (.node (o168 P) (.node (o296 P) .nil .nil) .nil) (.node (o232 P) .nil .nil))) (.node (o56 P) (.node (o88 P) (.node (o152 P) (.node (o280 P) .nil .nil) .nil) (.node (o216 P) .nil .nil)) (.node (o120 P) (.node (o184 P) .nil .nil) (.node (o248 P) .nil .nil))))) (.node (o12_7 P) (.node (o20 P) (.node (o36 P) (.node (o68 P) (.node (o132 P) (.node (o260 P) .nil .nil) .nil) (.node (o196 P) .nil .nil)) (.node (o100 P) (.node (o164 P) (.node (o292 P) .nil .nil) .nil) (.node (o228 P) .nil .nil))) (.node (o52 P) (.node (o84 P) (.node (o148 P) (.node (o276 P) .nil .nil) .nil) (.node (o212 P) .nil .nil)) (.node (o116 P) (.node (o180 P) .nil .nil) (.node (o244 P) .nil .nil)))) (.node (o28 P) (.node (o44 P) (.node (o76 P) (.node (o140 P) (.node (o268 P) .nil .nil) .nil) (.node (o204 P) .nil .nil)) (.node (o108 P) (.node (o172 P) .nil .nil) (.node (o236 P) .nil .nil))) (.node (o60 P) (.node (o92 P) (.node (o156 P) (.node (o284 P) .nil .nil) .nil) (.node (o220 P) .nil .nil)) (.node (o124 P) (.node (o188 P) .nil .nil) (.node (o252 P) .nil .nil)))))) (.node (boot_o_6 P) (.node (boot_o_10 P) (.node (o18 P) (.node (o34 P) (.node (o66 P) (.node (o130 P) (.node (o258 P) .nil .nil) .nil) (.node (o194 P) .nil .nil)) (.node (o98 P) (.node (o162 P) (.node (o290 P) .nil .nil) .nil) (.node (o226 P) .nil .nil))) (.node (o50 P) (.node (o82 P) (.node (o146 P) (.node (o274 P) .nil .nil) .nil) (.node (o210 P) .nil .nil)) (.node (o114 P) (.node (o178 P) .nil .nil) (.node (o242 P) .nil .nil)))) (.node (o26 P) (.node (o42 P) (.node (o74 P) (.node (o138 P) (.node (o266 P) .nil .nil) .nil) (.node (o202 P) .nil .nil)) (.node (o106 P) (.node (o170 P) .nil .nil) (.node (o234 P) .nil .nil))) (.node (o58 P) (.node (o90 P) (.node (o154 P) (.node (o282 P) .nil .nil) .nil) (.node (o218 P) .nil .nil)) (.node (o122 P) (.node (o186 P) .nil .nil) (.node (o250 P) .nil .nil))))) (.node (o14 P) (.node (o22 P) (.node (o38 P) (.node (o70 P) (.node (o134 P) (.node (o262 P) .nil .nil) .nil) (.node (o198 P) .nil .nil)) (.node (o102 P) (.node (o166 P) (.node (o294 P) .nil .nil) .nil) (.node (o230 P) .nil .nil))) (.node (o54 P) (.node (o86 P) (.node (o150 P) (.node (o278 P) .nil .nil) .nil) (.node (o214 P) .nil .nil)) (.node (o118 P) (.node (o182 P) .nil .nil) (.node (o246 P) .nil .nil)))) (.node (o30 P) (.node (o46 P) (.node (o78 P) (.node (o142 P) (.node (o270 P) .nil .nil) .nil) (.node (o206 P) .nil .nil)) (.node (o110 P) (.node (o174 P) .nil .nil) (.node (o238 P) .nil .nil))) (.node (o62 P) (.node (o94 P) (.node (o158 P) (.node (o286 P) .nil .nil) .nil) (.node (o222 P) .nil .nil)) (.node (o126 P) (.node (o190 P) .nil .nil) (.node (o254 P) .nil .nil)))))))
noncomputable def env0 : Env := { scope := prg.main.scope, locals := mainNs, globals := mainNs, cells := [], code := .ref 13, frame := some 14 }
noncomputable def q0 : Pos := ⟨0, 0, 0, 0⟩
noncomputable abbrev bd : List Stmt := behindTheImports prg
noncomputable abbrev cd0 : Code := .body bd env0
noncomputable abbrev drw : Drawn := boot_drawn
noncomputable abbrev S0 (w : World) (os : OsState) : SharedT := ⟨T0 w.params, 15, {}, #[], drw, 187, os⟩
noncomputable abbrev S1 (w : World) (os : OsState) : SharedT := ⟨T1 w.params, 58, {}, #[], drw, 249, os⟩
noncomputable abbrev S2 (w : World) (os : OsState) : SharedT := ⟨T2 w.params, 121, {}, #[], drw, 324, os⟩
noncomputable abbrev S3 (w : World) (os : OsState) : SharedT := ⟨T3 w.params, 163, {}, #[], drw, 379, os⟩
noncomputable abbrev S4 (w : World) (os : OsState) : SharedT := ⟨T4 w.params, 184, {}, #[], drw, 421, os⟩
noncomputable abbrev S5 (w : World) (os : OsState) : SharedT := ⟨T5 w.params, 205, {}, #[], drw, 466, os⟩
noncomputable abbrev S6 (w : World) (os : OsState) : SharedT := ⟨T6 w.params, 241, {}, #[], drw, 525, os⟩
noncomputable abbrev S7 (w : World) (os : OsState) : SharedT := ⟨T7 w.params, 297, {}, #[], drw, 642, os⟩
end Mine
namespace Mine
theorem run1 : ∀ (w : World) (os : OsState), segRunT treeTable prg w 11 (some (.ref 6)) 1 330 (S0 w os) (piecesOf ((bd.drop 0).take 5) env0 cd0 ⟨0, 0, 0, 0⟩ [topFrame q0]) = some (.next, S1 w os, cd0, ⟨21, 0, 23, 45⟩) := fun w os => by
  first
  | (show segRunT _ _ _ _ _ _ _ _ ⟨(execs _ _).wrap _ _ _ _, _, _, _⟩ = _; rw [PySem.W.Fast.te10110043849684766642, PySem.W.Fast.te14364793385576792824, PySem.W.Fast.te12563942051412417395]; kernel_rfl)
  | kernel_rfl
end Mine
namespace Mine
theorem run2 : ∀ (w : World) (os : OsState), segRunT treeTable prg w 11 (some (.ref 6)) 1 281 (S1 w os) (piecesOf ((bd.drop 5).take 10) env0 cd0 ⟨21, 0, 23, 45⟩ [topFrame q0]) = some (.next, S2 w os, cd0, ⟨70, 0, 75, 38⟩) := fun w os => by
  first
  | (show segRunT _ _ _ _ _ _ _ _ ⟨(execs _ _).wrap _ _ _ _, _, _, _⟩ = _; rw [PySem.W.Fast.te10110043849684766642, PySem.W.Fast.te14364793385576792824, PySem.W.Fast.te12563942051412417395]; kernel_rfl)
  | kernel_rfl
end Mine
namespace Mine
theorem run3 : ∀ (w : World) (os : OsState), segRunT treeTable prg w 11 (some (.ref 6)) 1 195 (S2 w os) (piecesOf ((bd.drop 15).take 7) env0 cd0 ⟨70, 0, 75, 38⟩ [topFrame q0]) = some (.next, S3 w os, cd0, ⟨133, 0, 133, 8⟩) := fun w os => by
  first
  | (show segRunT _ _ _ _ _ _ _ _ ⟨(execs _ _).wrap _ _ _ _, _, _, _⟩ = _; rw [PySem.W.Fast.te10110043849684766642, PySem.W.Fast.te14364793385576792824, PySem.W.Fast.te12563942051412417395]; kernel_rfl)
  | kernel_rfl
end Mine
namespace Mine
theorem run4 : ∀ (w : World) (os : OsState), segRunT treeTable prg w 11 (some (.ref 6)) 1 236 (S3 w os) (piecesOf ((bd.drop 22).take 1) env0 cd0 ⟨133, 0, 133, 8⟩ [topFrame q0]) = some (.next, S4 w os, cd0, ⟨134, 0, 148, 21⟩) := fun w os => by
  first
  | (show segRunT _ _ _ _ _ _ _ _ ⟨(execs _ _).wrap _ _ _ _, _, _, _⟩ = _; rw [PySem.W.Fast.te10110043849684766642, PySem.W.Fast.te14364793385576792824, PySem.W.Fast.te12563942051412417395]; kernel_rfl)
  | kernel_rfl
end Mine
namespace Mine
theorem run5 : ∀ (w : World) (os : OsState), segRunT treeTable prg w 11 (some (.ref 6)) 1 239 (S4 w os) (piecesOf ((bd.drop 23).take 1) env0 cd0 ⟨134, 0, 148, 21⟩ [topFrame q0]) = some (.next, S5 w os, cd0, ⟨149, 0, 165, 28⟩) := fun w os => by
  first
  | (show segRunT _ _ _ _ _ _ _ _ ⟨(execs _ _).wrap _ _ _ _, _, _, _⟩ = _; rw [PySem.W.Fast.te10110043849684766642, PySem.W.Fast.te14364793385576792824, PySem.W.Fast.te12563942051412417395]; kernel_rfl)
  | kernel_rfl
end Mine
namespace Mine
theorem run6 : ∀ (w : World) (os : OsState), segRunT treeTable prg w 11 (some (.ref 6)) 1 302 (S5 w os) (piecesOf ((bd.drop 24).take 1) env0 cd0 ⟨149, 0, 165, 28⟩ [topFrame q0]) = some (.next, S6 w os, cd0, ⟨166, 0, 192, 19⟩) := fun w os => by
  first
  | (show segRunT _ _ _ _ _ _ _ _ ⟨(execs _ _).wrap _ _ _ _, _, _, _⟩ = _; rw [PySem.W.Fast.te10110043849684766642, PySem.W.Fast.te14364793385576792824, PySem.W.Fast.te12563942051412417395]; kernel_rfl)
  | kernel_rfl
end Mine
namespace Mine
theorem run7 : ∀ (w : World) (os : OsState), segRunT treeTable prg w 11 (some (.ref 6)) 1 301 (S6 w os) (piecesOf ((bd.drop 25).take 9) env0 cd0 ⟨166, 0, 192, 19⟩ [topFrame q0]) = some (.next, S7 w os, cd0, ⟨301, 0, 338, 15⟩) := fun w os => by
  first
  | (show segRunT _ _ _ _ _ _ _ _ ⟨(execs _ _).wrap _ _ _ _, _, _, _⟩ = _; rw [PySem.W.Fast.te10110043849684766642, PySem.W.Fast.te14364793385576792824, PySem.W.Fast.te12563942051412417395]; kernel_rfl)
  | kernel_rfl
end Mine
namespace Mine
noncomputable def qv : Program := { prg with main := { prg.main with body := [st 33] } }
def loo : List Str := ["Node", "is_designator", "root_var", "is_readonly", "same_type", "is_integer", "is_text", "is_open", "record_of", "extends", "equal_types", "equal_procs", "equal_arrays", "assignable_string", "assignable_proc", "assignable", "passable_variable", "passable_structure", "passable", "Type", "Obj", "Types", "_law_pool", "_law_pick", "_law_world", "_law_alike", "_law_above", "_law_node", "_law_fits"]
def mas : List Addr := [3, 22, 28, 29, 31, 32, 42, 43, 49, 50, 56, 57, 63, 64, 70, 71, 77, 78, 84, 85, 91, 92, 98, 99, 105, 106, 112, 113, 119, 120, 126, 127, 133, 134, 140, 141, 147, 148, 154, 155, 161, 162, 175, 176, 178, 179, 196, 197, 199, 200, 217, 218, 219, 225, 226, 232, 233, 235, 236, 246, 247, 253, 254, 260, 261, 267, 268, 274, 275, 281, 282, 288, 289, 295, 296]
theorem mas_ok (P : Params) : mas = (MK P).map (·.1) := by kernel_rfl
noncomputable abbrev hk : Hook := kHook MK mas mas_ok
theorem hd_open : ∀ w : World, (fencedOpening treeTable prg w 5000).map (fun s => (s.heap, s.gens, s.drawn, s.toks)) = some (boot_heap w.params, Array.mk [], boot_drawn, boot_toks) :=
  boot_open (by kernel_rfl) (by kernel_rfl) (fun s => by kernel_rfl)
theorem hd_size : ∀ w : World, ((boot_heap w.params).isNs mainGlobals && (Array.mk [] : Array GenState).size == 0, (boot_heap w.params).objs.size, (boot_heap w.params).nsMap mainGlobals "__annotations__") = (true, 11, some (.ref 6)) := fun w => by kernel_rfl
theorem hd_pre (w : World) (os : OsState) : topGo treeTable prg w 11 (some (.ref 6)) 12 ⟨boot_heap w.params, Array.mk [], boot_drawn, boot_toks, os⟩ (topStub prg) = some ((S0 w os).abs, ⟨denote treeTable cd0, cd0, ⟨0, 0, 0, 0⟩, [topFrame q0]⟩) := by kernel_rfl
theorem hd_block (w : World) (os : OsState) : segRun treeTable prg w 11 (some (.ref 6)) 1 1 (S0 w os).abs (blockOf bd env0 cd0 ⟨0, 0, 0, 0⟩ [topFrame q0]) = some (.next, (S0 w os).abs, cd0, ⟨0, 0, 0, 0⟩) := by kernel_rfl
theorem hd_fin (w : World) (os : OsState) : topRun treeTable prg w 11 (some (.ref 6)) 2 (S7 w os).abs ⟨doneF .next, cd0, ⟨301, 0, 338, 15⟩, [topFrame q0]⟩ = some (S7 w os).abs := by kernel_rfl
end Mine
namespace Mine
noncomputable abbrev HF (P : Params) : Heap := absHeap (T7 P) 297 {}
abbrev xt0 : Shared → Bool := fun _ => true
theorem hd_l1 (w : World) (os : OsState) : (staticsOk (importedModules prg.main.body) (boot_heap w.params) (HF w.params) && namesBound prg (HF w.params) && gensDone ⟨HF w.params, #[], boot_drawn, 642, os⟩ && laidKept (boot_heap w.params) (HF w.params)) = true := by kernel_rfl
theorem hd_l2 (w : World) (os : OsState) : openSeen qv loo (importedModules prg.main.body) xt0 true ⟨HF w.params, #[], boot_drawn, 642, os⟩ = openGood qv loo := by kernel_rfl
theorem hd_l3 (w : World) (os : OsState) : hk.obs ⟨HF w.params, #[], boot_drawn, 642, os⟩ = hk.val w := by kernel_rfl
end Mine
namespace Mine
theorem hd_split : bd = (bd.drop 0).take 5 ++ ((bd.drop 5).take 10 ++ ((bd.drop 15).take 7 ++ ((bd.drop 22).take 1 ++ ((bd.drop 23).take 1 ++ ((bd.drop 24).take 1 ++ ((bd.drop 25).take 9 ++ [])))))) := by kernel_rfl
theorem hd_run (w : World) (os : OsState) : topRun treeTable prg w 11 (some (.ref 6)) (12 + (1 + (330 + (281 + (195 + (236 + (239 + (302 + (301 + 2))))))))) ⟨boot_heap w.params, Array.mk [], boot_drawn, boot_toks, os⟩ (topStub prg) = some ⟨HF w.params, Array.mk [], boot_drawn, 642, os⟩ := by
  refine go_top (hd_pre w os) (piece_block (hd_block w os) ?_)
  rw [show restOf bd env0 cd0 ⟨0, 0, 0, 0⟩ [topFrame q0] = restOf ((bd.drop 0).take 5 ++ ((bd.drop 5).take 10 ++ ((bd.drop 15).take 7 ++ ((bd.drop 22).take 1 ++ ((bd.drop 23).take 1 ++ ((bd.drop 24).take 1 ++ ((bd.drop 25).take 9 ++ []))))))) env0 cd0 ⟨0, 0, 0, 0⟩ [topFrame q0] from congrArg (fun l => restOf l env0 cd0 ⟨0, 0, 0, 0⟩ [topFrame q0]) hd_split]
  exact piece_app (segRun_of (run1 w os)) (piece_app (segRun_of (run2 w os)) (piece_app (segRun_of (run3 w os)) (piece_app (segRun_of (run4 w os)) (piece_app (segRun_of (run5 w os)) (piece_app (segRun_of (run6 w os)) (piece_app (segRun_of (run7 w os)) (piece_nil (hd_fin w os))))))))
theorem hd_left : LeftO prg qv loo xt0 hk.obs hk.val 5000 :=
  LeftO.of_pieces hd_open hd_size hd_run (by decide) fun w => funext fun os => Prod.ext (hd_l1 w os) (Prod.ext (hd_l2 w os) (hd_l3 w os))
end Mine
namespace Mine
/-! what is said of the law's text; the library's quick twins where they stand -/
theorem ws_res : namesResolve PySem.Challenge.rw_nu0331_01.row.prog = true := by
  first
  | (rw [PySem.W.Fast.te8377067652309620493]; kernel_rfl)
  | kernel_rfl
theorem ws_meet : (namesMeet PySem.Challenge.rw_nu0331_01.row.prog PySem.Challenge.rw_nu0331_01.row.prog.main.body fun x n => attrL n) = true := by
  first
  | (rw [PySem.W.Fast.te17119622794617984870]; kernel_rfl)
  | kernel_rfl
theorem ws_looks : looksOpen PySem.Challenge.rw_nu0331_01.row.prog = true := by
  unfold looksOpen
  repeat' (with_reducible refine look_both ?_ ?_)
  all_goals first
  | with_reducible exact ws_res
  | with_reducible exact ws_meet
  | (rw [PySem.W.Fast.te8326940854005059898]; kernel_rfl)
  | kernel_rfl
theorem ws_row : PySem.Challenge.rw_nu0331_01.row.wellSaid = true := by
  unfold OpenRow.wellSaid OpenRow.partSaid
  repeat' (with_reducible refine look_both ?_ ?_)
  all_goals first
  | with_reducible exact ws_looks
  | kernel_rfl
theorem ws_nb : (PySem.Challenge.rw_nu0331_01.bound'.all fun n => !builtinNamed n || PySem.Challenge.rw_nu0331_01.about == [n] || !PySem.Challenge.rw_nu0331_01.reads n) = true := by
  first
  | (simp only [PySem.W.Fast.named_eq]; kernel_rfl)
  | kernel_rfl
theorem ws_road : noRoadLSs { strict := true, foot := some PySem.Challenge.rw_nu0331_01.bound', writes := PySem.Challenge.rw_nu0331_01.writes, may := PySem.Challenge.rw_nu0331_01.may } PySem.Challenge.rw_nu0331_01.footing = true := by
  first
  | (rw [PySem.W.Fast.te8326940854005059898]; kernel_rfl)
  | kernel_rfl
theorem ws_meet2 : (namesMeet PySem.Challenge.rw_nu0331_01.prog PySem.Challenge.rw_nu0331_01.above fun x n => !PySem.Challenge.rw_nu0331_01.own.contains n) = true := by
  first
  | (rw [PySem.W.Fast.te17119622794617984870]; kernel_rfl)
  | kernel_rfl
theorem ws_law : PySem.Challenge.rw_nu0331_01.wellSaid = true := by
  unfold OpenLaw.wellSaid
  repeat' (with_reducible refine look_both ?_ ?_)
  all_goals first
  | with_reducible exact ws_row
  | with_reducible exact ws_nb
  | with_reducible exact ws_road
  | with_reducible exact ws_meet2
  | (rw [PySem.W.Fast.te17119622794617984870]; kernel_rfl)
  | kernel_rfl
end Mine
namespace Mine
theorem hd_ok : (chainsOk qv && opensWell prg && (frees PySem.Challenge.rw_nu0331_01.row.toRowW && PySem.Challenge.rw_nu0331_01.row.within.isEmpty)) = true := by kernel_rfl
theorem hd_name {P : Params} : nsIn (MK P) mainGlobals "law" = some (some (.ref 296)) := by kernel_rfl
theorem hd_fun {P : Params} : (MK P).lookup 296 = some flaw.ob := by kernel_rfl
theorem hd_cell (P : Params) : ∀ x ∈ flaw.scope.names, x.2 ≠ .cell := fun y hy => of_decide_eq_true (List.all_eq_true.mp (k_law (P := P)).cell y hy)
theorem hd_walk {w : World} {s : Shared} {mg mb : Str → Option Value} {mean : ExcName → Option Value} {l : Addr} {vs : List Value} {ns : List Int} {R : Result → Shared → Prop} (T : Top qv (looseW qv loo) mean mg mb s.heap) (KX : (MK w.params).In s.heap) (hi : IntsAre vs ns) (hz : ns.length ≤ 63) (hl : s.heap.IsList l vs.toArray)
    (k : ∀ s', (∀ b o, s.heap.get? b = some o → s'.heap.get? b = some o) → s'.os = s.os → s'.gens = s.gens → R (.ok (.ret (.bool true))) s') : codeAny (model prg w) callerA (.call (.ref 296) ⟨[.ref l], []⟩) R s := by
  refine codeAny_call_def (fd := flaw.fd) (body := flaw.body) (binds := [("script", .ref l)]) (by decide) (KX _ _ hd_fun) rfl T.nolimit (codeRec_of KX (k_law (P := w.params)).code) rfl (BindsTo.of_eq (b_law [.ref l] rfl)) (hd_cell w.params) ?_ ?_ (k_law (P := w.params)).co (k_law (P := w.params)).gen (k_law (P := w.params)).kind
  · intro x hx
    rw [List.mem_singleton.mp hx]; exact by kernel_rfl
  intro h₀ hns keep
  have S : St w (MK w.params) (flaw.cx (callerA.deeper (callEnv flaw.fd s.heap.objs.size 296)) s.heap s.heap.objs.size 112) (fun i => [AV.ref l][i]?) (fun _ => none) h₀ := by
    refine ⟨⟨⟨callerA, s.heap, [], below_caller _, rfl⟩, KX, ⟨_, _, _, _, _, T⟩, (k_law (P := w.params)).kind, (k_law (P := w.params)).names, rfl, ?_, ?_⟩, fun a C d fs q => (by cases q), _, [], ⟨hns, keep, Nat.le_refl _⟩, fun p q => (by cases q), ?_, fun a o q => (by cases q)⟩
    · show 1 + claimMargin + 1 + 112 < recursionLimit
      decide
    · show 4 + 3 + 8 * 112 + 8 < cLine
      decide
    · intro i x av e1 e2
      cases i with
      | succ i => simp at e2
      | zero =>
        simp at e2; subst e2
        refine ⟨.ref l, ?_, rfl⟩
        have : x = "script" := by
          have h : flaw.scope.names[0]? = some (("script" : Str), NameKind.local) := by kernel_rfl
          rw [h] at e1; cases e1; rfl
        subst this
        show List.lookup _ [_] = _
        simp
  refine law_body (w := w) (H := fun _ => none) hi (by omega) _ s.heap s.heap.objs.size 112 hl (Nat.le_refl _) { s with heap := h₀, toks := s.toks + 1 } _ _ S ?_
  intro af ρ' H' f h' tk q of S'
  obtain ⟨m, news, F, N, fo, ab⟩ := S'.at_
  cases af with
  | ret a =>
    obtain ⟨v, rfl, ov⟩ := of
    have e : a = .bool true := q
    subst e; cases ov
    exact k _ F.keep rfl rfl
  | next => exact absurd q (by intro e; cases e)
  | brk => exact q.elim
  | cont => exact q.elim
theorem hd_holds (k1 : PySem.Challenge.rw_nu0331_01.row.wellSaid = true) : PySem.Challenge.rw_nu0331_01.row.Holds := by
  refine holds_open (q := qv) (loose := loo) (Xt := xt0) (XP := fun _ _ => True) (Yf := hk.obs) (Ya := hk.val) (YP := hk.says) (N := 5000) hd_left hk.of hk.keeps (fun _ _ => trivial) (fun _ _ _ _ _ => trivial) (by rfl) (by rfl) (by rfl) (fun s _ => recFacts_nil rfl) (by rfl) k1 hd_ok ⟨rfl, rfl, rfl, rfl, rfl, by decide +kernel⟩ ?hw ?hc
  · exact ⟨[.list []], by decide +kernel, by decide +kernel⟩
  · intro w s₀ s₁ mg mb G Y fa o pm cd doc dV kV ho hd hcd hD hmg hg args vals as hpre hlay hrd hwl hlo
    have KX := kIn_of Y
    refine Ground.open G ?_
    intro T B D TE TW
    have efa : fa = 296 := by
      have e1 := mg_of KX T.g hd_name
      have e2 : mg "law" = some (.ref fa) := hmg
      rw [e1] at e2; cases e2; rfl
    subst efa
    clear ho hd hcd hD hmg
    wrow_args hpre hlay hrd hwl hlo
    refine enter_call ?_
    rename_i hL _ _ _ hI _ hc _
    refine hd_walk T KX hI (by omega) hL fun s' keep eos eg => GoodW.toG ⟨.inl ⟨.bool true, .bool true, [], rfl, fun _ => rfl, (.bool true), (by kernel_rfl), fun _ => ⟨List.nodup_nil, fun _ q => by cases q⟩⟩, keep, eos, eg.trans hg⟩
end Mine
theorem PySem.Challenge.cw_nu0331_01_holds : PySem.Challenge.rw_nu0331_01.Holds :=
  holds_law Mine.ws_law Mine.hd_holds
