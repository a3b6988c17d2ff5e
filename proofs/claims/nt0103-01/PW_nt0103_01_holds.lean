import PyProof.Rows.All
import Wide.All
import OpenK.AllK
import Wide.FinOn
import PySem.Challenge.RW_nt0103_01
set_option Elab.async false
set_option linter.unusedVariables false
set_option compiler.extract_closed false

section
open PySem PySem.W PyProof.Rows
set_option Elab.async false
set_option linter.unusedVariables false
namespace Mine
open Sem (wp)

/-- no activation under way is a decoder that may hold a bytearray -/
def holdIds : List String := Builtin.Bytes.decodersThatHold ++ ["bytearray.__contains__", "bytearray.__mod__", "bytearray.__rmod__", "_struct.pack_into.held", "bytearray.find.held"]
def okCode : Code → Bool
  | .builtin id _ => !holdIds.contains id
  | _ => true
def Clean (l : List (Code × Pos)) : Prop := ∀ x ∈ l, okCode x.1 = true

def wpC {α : Type} (M : Model) (A : Around) (t : Sem α) (Q : α → Shared → Prop) (E : Value → Shared → Prop) (s : Shared) : Prop :=
  ∀ Γ p, Γ.In A → okCode Γ.code = true → Clean Γ.below → wp M Γ t (fun a _ s' => Q a s') (fun e _ s' => E e s') p s
def codeC (M : Model) (A : Around) (c : Code) (R : Result → Shared → Prop) (s : Shared) : Prop :=
  ∀ Γ p, Γ.code = c → Γ.Below A → Clean Γ.below → wpCode M Γ R p s

section
variable {α β : Type} {M : Model} {A : Around} {E : Value → Shared → Prop} {s : Shared}
theorem wpC_any {t : Sem α} {Q : α → Shared → Prop} (h : wpAny M A t Q E s) : wpC M A t Q E s := fun Γ p hΓ _ _ => h Γ p hΓ
theorem codeC_any {c : Code} {R : Result → Shared → Prop} (h : codeAny M A c R s) : codeC M A c R s := fun Γ p hc hΓ _ => h Γ p hc hΓ
theorem wpC_pure {a : α} {Q : α → Shared → Prop} (h : Q a s) : wpC M A (pure a) Q E s := fun _ _ _ _ _ => h
theorem wpC_throw {e : Value} {Q : α → Shared → Prop} (h : E e s) : wpC M A (throw e : Sem α) Q E s := fun _ _ _ _ _ => h
theorem wpC_mono {t : Sem α} {Q Q' : α → Shared → Prop} {E' : Value → Shared → Prop} (h : wpC M A t Q E s)
    (hQ : ∀ a s, Q a s → Q' a s) (hE : ∀ e s, E e s → E' e s) : wpC M A t Q' E' s :=
  fun Γ p hΓ h1 h2 => Sem.wp_mono M Γ t (fun a _ s => hQ a s) (fun e _ s => hE e s) p s (h Γ p hΓ h1 h2)
theorem wpC_bind {m : Sem α} {f : α → Sem β} {Q : β → Shared → Prop} (h : wpC M A m (fun a s' => wpC M A (f a) Q E s') E s) :
    wpC M A (m >>= f) Q E s := fun Γ p hΓ h1 h2 => by
  rw [Sem.wp_bind']
  exact Sem.wp_mono M Γ m (fun a p' s' h' => h' Γ p' hΓ h1 h2) (fun _ _ _ h' => h') p s (h Γ p hΓ h1 h2)
theorem wpC_then {m : Sem α} {f : α → Sem β} {Q : β → Shared → Prop} {P : α → Shared → Prop} (h : wpC M A m P E s) (k : ∀ a s', P a s' → wpC M A (f a) Q E s') :
    wpC M A (m >>= f) Q E s := wpC_bind (wpC_mono h k fun _ _ x => x)
theorem wpC_tryCatch {m : Sem α} {k : Value → Sem α} {Q : α → Shared → Prop} (h : wpC M A m Q (fun e s' => wpC M A (k e) Q E s') s) :
    wpC M A (tryCatch m k) Q E s := fun Γ p hΓ h1 h2 => by
  rw [Sem.wp_tryCatch']
  exact Sem.wp_mono M Γ m (fun _ _ _ h' => h') (fun e p' s' h' => h' Γ p' hΓ h1 h2) p s (h Γ p hΓ h1 h2)
theorem wpC_onRaise {m : Sem α} {k : Value → Sem Unit} {Q : α → Shared → Prop}
    (h : wpC M A m Q (fun e s' => wpC M A (k e) (fun _ s'' => E e s'') E s') s) : wpC M A (m.onRaise k) Q E s := fun Γ p hΓ h1 h2 => by
  rw [Sem.wp_onRaise]
  exact Sem.wp_mono M Γ m (fun _ _ _ h' => h') (fun e p' s' h' => h' Γ p' hΓ h1 h2) p s (h Γ p hΓ h1 h2)
theorem wpC_attempt {m : Sem α} {Q : Except Value α → Shared → Prop} (h : wpC M A m (fun a => Q (.ok a)) (fun e => Q (.error e)) s) :
    wpC M A m.attempt Q E s := fun Γ p hΓ h1 h2 => by rw [Sem.wp_attempt]; exact h Γ p hΓ h1 h2
theorem wpC_holding {vs : List Value} {m : Sem α} {Q : α → Shared → Prop} (h : wpC M A m Q E s) : wpC M A (holding vs m) Q E s :=
  fun Γ p hΓ h1 h2 => by rw [Sem.wp_holding]; exact h Γ p hΓ h1 h2
theorem wpC_keep {vs : List Value} {m : Sem α} {Q : α → Shared → Prop} (h : wpC M A m Q E s) : wpC M A (m.keep vs) Q E s :=
  fun Γ p hΓ h1 h2 => by rw [Sem.wp_keep]; exact h Γ p hΓ h1 h2
theorem wpC_standAt {pos : Pos} {Q : Unit → Shared → Prop} (h : Q () s) : wpC M A (standAt pos) Q E s := fun _ _ _ _ _ => h
theorem wpC_at {pos : Pos} {f : Unit → Sem β} {Q : β → Shared → Prop} (h : wpC M A (f ()) Q E s) : wpC M A (standAt pos >>= f) Q E s := wpC_bind (wpC_standAt h)
theorem wpC_point {Q : Unit → Shared → Prop} (h : Q () s) : wpC M A point Q E s := fun _ _ _ _ _ => h
theorem wpC_release {vs keep : List Value} {Q : Unit → Shared → Prop} (h : Q () s) : wpC M A (release vs keep) Q E s := by
  refine wpC_any fun Γ p _ => ?_
  rw [release, Sem.wp_release_go]; exact h
theorem wpC_operate {vs : List Value} {m : Sem Value} {Q : Value → Shared → Prop} (h : wpC M A m Q E s) : wpC M A (operate vs m) Q E s := by
  unfold operate
  exact wpC_bind (wpC_holding (wpC_mono h (fun r s' hr => wpC_bind (wpC_release (wpC_pure hr))) fun _ _ x => x))

theorem codeC_mono {c : Code} {R R' : Result → Shared → Prop} (h : codeC M A c R s) (hR : ∀ r s, R r s → R' r s) : codeC M A c R' s :=
  fun Γ p hc hΓ h2 => wpCode_mono hR (h Γ p hc hΓ h2)
theorem wpC_run {c : Code} {h : Option Value} {Q : Flow → Shared → Prop}
    (hc : codeC M (A.mark h) c (fun r s' => match r with | .ok f => Q f s' | .error e => E e s') s) (hnb : h ≠ some byPass := by intro x; cases x) :
    wpC M A (run c h) Q E s :=
  fun Γ p hΓ h1 h2 => by
    rw [Sem.wp_run]
    refine hc _ p rfl (hΓ.enter c h p hnb) fun x hx => ?_
    rcases List.mem_cons.mp hx with rfl | hx
    · exact h1
    · exact h2 x hx
theorem wpC_runValue {c : Code} {Q : Value → Shared → Prop}
    (hc : codeC M A c (fun r s' => match r with | .ok (.ret v) => Q v s' | .ok _ => False | .error e => E e s') s) :
    wpC M A (runValue c) Q E s := fun Γ p hΓ h1 h2 => by
  rw [Sem.wp_runValue]
  refine hc _ p rfl (hΓ.enter c none p (by intro x; cases x)) fun x hx => ?_
  rcases List.mem_cons.mp hx with rfl | hx
  · exact h1
  · exact h2 x hx
theorem wpC_call {f : Value} {pos : List Value} {kw : List (Str × Value)} {Q : Value → Shared → Prop}
    (hc : codeC M A (.call f ⟨pos, kw⟩) (fun r s' => match r with | .ok (.ret v) => Q v s' | .ok _ => False | .error e => E e s') s) :
    wpC M A (call f pos kw) Q E s := wpC_runValue hc
theorem codeC_of_tree {c : Code} {R : Result → Shared → Prop} (hk : okCode c = true)
    (h : wpC M (A.under c) (M.den c) (fun fin s' => match fin with | .done f => R (.ok f) s' | .again c' => c'.quiet = true ∧ codeC M A c' R s')
      (fun e s' => R (.error e) s') s) : codeC M A c R s := fun Γ p hc hΓ h2 => by
  rw [wpCode_iff_wp, hc]
  refine Sem.wp_mono M Γ _ (fun fin p' s' h' => ?_) (fun _ _ _ h' => h') p s (h Γ p (hc ▸ hΓ.in) (hc ▸ hk) h2)
  cases fin with
  | done f => exact h'
  | again c' => exact ⟨h'.1, h'.2 (Γ.goto c') p' rfl (hΓ.goto c') h2⟩
theorem codeC_loop {c : Code} {R : Result → Shared → Prop} (hk : okCode c = true) (hq : c.quiet = true) (I : Nat → Shared → Prop)
    (turn : ∀ n s, I n s → wpC M (A.under c) (M.den c)
      (fun fin s' => match fin with
        | .done f => R (.ok f) s'
        | .again c' => (c' = c ∧ ∃ m, m < n ∧ I m s') ∨ (c'.quiet = true ∧ codeC M A c' R s')) (fun e s' => R (.error e) s') s)
    (n : Nat) (h : I n s) : codeC M A c R s := by
  induction n using Nat.strongRecOn generalizing s with
  | ind n ih =>
    refine codeC_of_tree hk (wpC_mono (turn n s h) (fun fin s' hf => ?_) fun _ _ h' => h')
    cases fin with
    | done f => exact hf
    | again c' =>
      rcases hf with ⟨rfl, m, hm, hI⟩ | hf
      · exact ⟨hq, ih m hm hI⟩
      · exact hf
theorem wpC_noted {env : Env} {m : Sem α} {Q : α → Shared → Prop} (h : wpC M A m Q (notedBy M A env E) s) : wpC M A (m.onRaise fun x => do noteFrame x env; theTreesLotGoes x) Q E s :=
  wpC_onRaise (wpC_mono h (fun _ _ q => q) fun _ _ hx => wpC_any (wpAny_bind (wpAny_mono hx (fun _ _ e => wpAny_theTreesLotGoes e) fun _ _ e => e)))
theorem wpC_runOwn {c : Code} {env : Env} {h : Option Value} {Q : Flow → Shared → Prop}
    (hc : codeC M (A.mark h) c (fun r s' => match r with | .ok f => Q f s' | .error e => cameBackBy M A env E e s') s) (hnb : h ≠ some byPass := by intro x; cases x) :
    wpC M A (runOwn c env h) Q E s := by
  unfold runOwn
  exact wpC_onRaise (wpC_mono (wpC_run hc hnb) (fun _ _ x => x) fun _ _ x => wpC_any x)
end

section
variable {prog : Program} {w : World} {A : Around} {E : Value → Shared → Prop} {R : Result → Shared → Prop} {s : Shared}
theorem codeC_func {body : List Stmt} {env : Env}
    (h : wpC (model prog w) (A.deeper env) (execs body env) (fun f s' => R (.ok (.ret (match f with | .ret v => v | _ => .none))) s')
      (fun e s' => wpC (model prog w) (A.deeper env) (leaving env e) (fun _ s'' => R (.error e) s'') (fun e' s'' => R (.error e') s'') s') s) :
    codeC (model prog w) A (.func body env) R s := by
  refine codeC_of_tree rfl ?_
  show wpC _ (A.deeper env) (do point; match ← (execs body env).onRaise (leaving env) with | .ret v => ret v | _ => ret .none) _ _ s
  refine wpC_bind (wpC_point (wpC_bind (wpC_onRaise (wpC_mono h (fun f s' h' => ?_) fun _ _ h' => h'))))
  cases f <;> exact wpC_pure h'
theorem codeC_call_def {a : Addr} {o : Obj} {fd : FuncData} {body : List Stmt} {args : Args} {binds : List (Str × Value)}
    (hroom : A.depth < recursionLimit) (ho : s.heap.get? a = some o) (hdata : o.data = .func fd) (hlim : s.heap.NoLimit) (hcd : s.heap.CodeRec fd.code fd.qualname)
    (hbody : fd.body = .stmts body) (hbind : BindsTo s fd args binds) (hco : fd.scope.isCoroutine = false) (hgen : fd.scope.isGenerator = false)
    (h : wpAny (model prog w) A.in1 (newFunctionEnv fd.scope fd.globals fd.closure binds (fd.qualname ++ ".<locals>.") (some a) fd.code none fd.builtins)
        (fun env s₂ => s₂.heap.NoLimit ∧ codeC (model prog w) A (.func body env) R s₂) (fun e s' => R (.error e) s') s) :
    codeC (model prog w) A (.call (.ref a) args) R s := by
  refine codeC_of_tree rfl ?_
  show wpC _ A.in1 (callAny (.ref a) args) _ _ s
  simp only [callAny]
  refine wpC_bind (wpC_any (wpAny_load ho ?_))
  obtain ⟨c, oc, vs, tq, hc, hoc, hdc, hq⟩ := hcd
  simp only [hdata, callFunction, hco, hgen, hbody, hc]
  rw [hc] at h
  refine wpC_bind (m := field (.ref c) 1) (wpC_any (wpAny_field hoc hdc hq ?_))
  refine wpC_bind (wpC_pure ?_)
  refine wpC_bind (wpC_any (hbind _ _ _ _ ?_))
  refine wpC_bind (wpC_any (wpAny_mono h (fun env s₂ h₂ => ?_) fun _ _ x => x))
  exact wpC_bind (wpC_any (wpAny_enterFrame h₂.1 hroom (wpC_pure (And.intro rfl h₂.2))))
end
end Mine
end
section
open PySem PySem.W PyProof.Rows
set_option Elab.async false
set_option linter.unusedVariables false
namespace Mine

inductive AV where
  | none
  | bool (b : Bool)
  | int (i : Int)
  | str (s : Str)
  | bytes (b : List Nat)
  | ref (a : Addr)
  | type (n : String)
  | builtin (n : String)

def byteA (ns : List Nat) : Array UInt8 := (ns.map Nat.toUInt8).toArray

def AV.Is : AV → Value → Prop
  | .none, v => v = .none
  | .bool b, v => v = .bool b
  | .int i, v => ∃ t, v = .int i t
  | .str s, v => ∃ t, v = .str s t
  | .bytes ns, v => (∀ n ∈ ns, n < 256) ∧ ∃ t, v = .bytes (byteA ns) t
  | .ref a, v => v = .ref a
  | .type n, v => v = .type n
  | .builtin n, v => v = .builtin n

def IsAll : List AV → List Value → Prop
  | [], [] => True
  | a :: as, v :: vs => a.Is v ∧ IsAll as vs
  | _, _ => False

theorem IsAll.nil_inv {vs : List Value} (h : IsAll [] vs) : vs = [] := by cases vs with | nil => rfl | cons => exact h.elim
theorem IsAll.cons_inv {a : AV} {as : List AV} {vs : List Value} (h : IsAll (a :: as) vs) : ∃ v r, vs = v :: r ∧ a.Is v ∧ IsAll as r := by
  cases vs with
  | nil => exact h.elim
  | cons v r => exact ⟨v, r, rfl, h⟩
theorem IsAll.length : ∀ {as : List AV} {vs : List Value}, IsAll as vs → vs.length = as.length
  | [], [], _ => rfl
  | _ :: _, _ :: _, h => congrArg (· + 1) (IsAll.length h.2)
  | [], _ :: _, h => h.elim
  | _ :: _, [], h => h.elim
theorem IsAll.append : ∀ {as bs : List AV} {vs ws : List Value}, IsAll as vs → IsAll bs ws → IsAll (as ++ bs) (vs ++ ws)
  | [], _, [], _, _, h => h
  | _ :: _, _, _ :: _, _, h, k => ⟨h.1, IsAll.append h.2 k⟩
  | [], _, _ :: _, _, h, _ => h.elim
  | _ :: _, _, [], _, h, _ => h.elim
theorem IsAll.get : ∀ {as : List AV} {vs : List Value} {i : Nat} {a : AV}, IsAll as vs → as[i]? = some a → ∃ v, vs[i]? = some v ∧ a.Is v
  | _ :: _, v :: _, 0, _, h, e => by cases e; exact ⟨v, rfl, h.1⟩
  | _ :: _, _ :: _, i + 1, _, h, e => by
    obtain ⟨v, e', k⟩ := IsAll.get (i := i) h.2 (by simpa using e)
    exact ⟨v, by simpa using e', k⟩
  | [], _, _, _, _, e => by simp at e
  | _ :: _, [], _, _, h, _ => h.elim
theorem IsAll.set : ∀ {as : List AV} {vs : List Value} (i : Nat) {a : AV} {v : Value}, IsAll as vs → a.Is v → IsAll (as.set i a) (vs.set i v)
  | [], [], _, _, _, _, _ => trivial
  | _ :: _, _ :: _, 0, _, _, h, k => ⟨k, h.2⟩
  | _ :: _, _ :: _, i + 1, _, _, h, k => ⟨h.1, IsAll.set i h.2 k⟩
  | [], _ :: _, _, _, _, h, _ => h.elim
  | _ :: _, [], _, _, _, h, _ => h.elim
theorem IsAll.reverse {as : List AV} {vs : List Value} (h : IsAll as vs) : IsAll as.reverse vs.reverse := by
  induction as generalizing vs with
  | nil => rw [h.nil_inv]; trivial
  | cons a as ih =>
    obtain ⟨v, r, rfl, h1, h2⟩ := h.cons_inv
    rw [List.reverse_cons, List.reverse_cons]
    exact (ih h2).append ⟨h1, trivial⟩

inductive AObj where
  | list (xs : List AV)
  | tuple (xs : List AV)
  | barr (ns : List Nat)
  | range (lo hi : Int)
  | cell (v : Option AV)
  | script (ob : Obj) (ns : List Int)
  /-- an exception of a class of the program, made and not raised yet -/
  | exc (C t : Addr)

def AObj.Is : AObj → Obj → Prop
  | .list xs, o => ∃ vs n, o = { cls := .type "list", data := .seq vs n } ∧ IsAll xs vs.toList
  | .tuple xs, o => o.cls = .type "tuple" ∧ ∃ vs n, o.data = .seq vs n ∧ IsAll xs vs.toList
  | .barr ns, o => (∀ n ∈ ns, n < 256) ∧ o = { cls := .type "bytearray", data := .bytearray (byteA ns) }
  | .range lo hi, o => ∃ t u v, o = { cls := .type "range", data := .fields #[.int lo t, .int hi u, .int 1 v] }
  | .script ob ns, o => o = ob ∧ ob.cls = .type "list" ∧ ∃ vs n, ob.data = .seq vs n ∧ IntsAre vs.toList ns
  | .cell none, o => o.data = .cell none
  | .cell (some a), o => ∃ v, o.data = .cell (some v) ∧ a.Is v
  | .exc C t, o => ∃ d, o = { cls := .ref C, dict := d, data := .fields #[.ref t, .none, .none, .none, .bool false, .none] }

def AHeap := Addr → Option AObj
def AHeap.set (H : AHeap) (a : Addr) (o : AObj) : AHeap := fun b => if b = a then some o else H b
theorem AHeap.set_same (H : AHeap) (a : Addr) (o : AObj) : H.set a o a = some o := if_pos rfl
theorem AHeap.set_ne (H : AHeap) {a b : Addr} (o : AObj) (h : b ≠ a) : H.set a o b = H b := if_neg h
theorem AHeap.set_set (H : AHeap) (a : Addr) (o o' : AObj) : (H.set a o).set a o' = H.set a o' := by
  funext b; unfold AHeap.set; split <;> rfl
def AHeap.Sub (H H' : AHeap) : Prop := ∀ a o, H a = some o → H' a = some o
theorem AHeap.Sub.refl (H : AHeap) : H.Sub H := fun _ _ e => e
theorem AHeap.Sub.trans {H H' H'' : AHeap} (h : H.Sub H') (k : H'.Sub H'') : H.Sub H'' := fun a o e => k a o (h a o e)
theorem AHeap.Sub.new {H H' : AHeap} (h : H.Sub H') {a : Addr} {o : AObj} (n : H a = none) : H.Sub (H'.set a o) := fun b p e => by
  have : b ≠ a := fun q => by rw [q, n] at e; cases e
  rw [AHeap.set_ne _ _ this]; exact h b p e
theorem AHeap.Sub.set {H H' : AHeap} (h : H.Sub H') (a : Addr) (o : AObj) : (H.set a o).Sub (H'.set a o) := fun b p e => by
  unfold AHeap.set at e ⊢
  split at e
  · rename_i q; rw [if_pos q]; exact e
  · rename_i q; rw [if_neg q]; exact h b p e
theorem AHeap.Sub.at {H H' : AHeap} (h : H.Sub H') {a : Addr} {o : AObj} (e : H a = some o) : H' a = some o := h a o e
theorem AHeap.Sub.none {H H' : AHeap} (h : H.Sub H') {a : Addr} (e : H' a = none) : H a = none := by
  cases q : H a with
  | none => rfl
  | some o => rw [h a o q] at e; cases e
theorem AHeap.set_none {H : AHeap} {a b : Addr} {o : AObj} (e : H.set a o b = none) : b ≠ a ∧ H b = none := by
  unfold AHeap.set at e
  split at e
  · cases e
  · rename_i q; exact ⟨q, e⟩
theorem AHeap.ne_of {H : AHeap} {a b : Addr} {o : AObj} (ha : H a = none) (hb : H b = some o) : b ≠ a := fun e => by rw [e, ha] at hb; cases hb

abbrev Loc := List (Str × Option AV)
inductive At : Loc → Str → AV → Prop
  | here {x : Str} {v : AV} {r : Loc} : At ((x, some v) :: r) x v
  | there {p : Str × Option AV} {x : Str} {v : AV} {r : Loc} : At r x v → At (p :: r) x v
inductive Put : Loc → Str → AV → Loc → Prop
  | here {x : Str} {u : Option AV} {v : AV} {r : Loc} : Put ((x, u) :: r) x v ((x, some v) :: r)
  | there {p : Str × Option AV} {x : Str} {v : AV} {r r' : Loc} : Put r x v r' → Put (p :: r) x v (p :: r')
theorem At.mem {m : Loc} {x : Str} {v : AV} (h : At m x v) : (x, some v) ∈ m := by
  induction h with
  | here => exact List.mem_cons_self
  | there _ ih => exact List.mem_cons_of_mem _ ih
theorem Put.keys {m m' : Loc} {x : Str} {v : AV} (h : Put m x v m') : m'.map (·.1) = m.map (·.1) := by
  induction h with
  | here => rfl
  | there _ ih => rw [List.map_cons, List.map_cons, ih]
theorem Put.has {m m' : Loc} {x : Str} {v : AV} (h : Put m x v m') : x ∈ m.map (·.1) := by
  induction h with
  | here => exact List.mem_cons_self
  | there _ ih => exact List.mem_cons_of_mem _ ih
theorem Put.old {m m' : Loc} {x : Str} {v : AV} (h : Put m x v m') (nd : (m.map (·.1)).Nodup) : ∀ y u, (y, u) ∈ m' → (y = x ∧ u = some v) ∨ (y ≠ x ∧ (y, u) ∈ m) := by
  induction h with
  | here =>
    intro y u hm
    rcases List.mem_cons.mp hm with e | hm
    · injection e with e1 e2; exact .inl ⟨e1, e2⟩
    · refine .inr ⟨fun e => ?_, List.mem_cons_of_mem _ hm⟩
      have := (List.nodup_cons.mp nd).1
      exact this (List.mem_map.mpr ⟨_, hm, e⟩)
  | @there p x v r r' hp ih =>
    intro y u hm
    rcases List.mem_cons.mp hm with e | hm
    · refine .inr ⟨fun q => ?_, e ▸ List.mem_cons_self⟩
      have h1 := (List.nodup_cons.mp nd).1
      refine h1 ?_
      have : p.1 = x := by rw [← e]; exact q
      show p.1 ∈ _
      rw [this]; exact hp.has
    · rcases ih (List.nodup_cons.mp nd).2 y u hm with q | ⟨q1, q2⟩
      · exact .inl q
      · exact .inr ⟨q1, List.mem_cons_of_mem _ q2⟩

structure FC where
  prog : Program
  K : Params → Frag
  scope : Scope
  ht : Nat

structure Cx where
  w : World
  A : Around
  env : Env
  os : OsState
  /-- what the ground of a state must tell besides -/
  P : Heap → Prop := fun _ => True

structure Ok (F : FC) (c : Cx) : Prop where
  kind : F.scope.kind = .function
  scope : c.env.scope = F.scope
  glob : c.env.globals = mainGlobals
  bui : c.env.builtins = builtinsNs
  hh : c.A.handled = none
  depth : c.A.depth + F.ht < recursionLimit
  units : c.A.units + 8 * F.ht + 80 < cLine
  mono : ∀ h h' : Heap, h.StaysIn h' → c.P h → c.P h'

structure Sta (F : FC) (c : Cx) (h : Heap) : Prop where
  K : (F.K c.w.params).In h
  top : ∃ p loose mg mb, TopRead p loose mg mb h

theorem Sta.keeps {F : FC} {c : Cx} {h h' : Heap} (x : Sta F c h) (k : ∀ b o, h.get? b = some o → h'.get? b = some o) : Sta F c h' :=
  ⟨x.K.keeps k, let ⟨p, l, mg, mb, T⟩ := x.top; ⟨p, l, mg, mb, T.keeps k⟩⟩

structure St (F : FC) (c : Cx) (h₀ : Heap) (m : Loc) (H : AHeap) (s : Shared) : Prop where
  ok : Ok F c
  sta : Sta F c h₀
  ns : ∃ mm, s.heap.Ns c.env.locals mm ∧ ∀ x v, (x, some v) ∈ m → ∃ u, mm x = some u ∧ v.Is u
  loc : ∀ x ∈ m.map (·.1), F.scope.names.lookup x = some .local ∧ (x == ("__debug__" : Str)) = false
  nd : (m.map (·.1)).Nodup
  keep : ∀ b o, h₀.get? b = some o → s.heap.get? b = some o
  newL : h₀.get? c.env.locals = none
  heap : ∀ a o, H a = some o → (∃ ob, s.heap.get? a = some ob ∧ o.Is ob) ∧ a ≠ c.env.locals ∧ h₀.get? a = none
  gens : s.gens = #[]
  os : s.os = c.os
  gp : c.P h₀

section
variable {F : FC} {c : Cx} {h₀ : Heap} {m m' : Loc} {H : AHeap} {s : Shared}
theorem St.toks (x : St F c h₀ m H s) (t : Nat) : St F c h₀ m H { s with toks := t } := ⟨x.ok, x.sta, x.ns, x.loc, x.nd, x.keep, x.newL, x.heap, x.gens, x.os, x.gp⟩
theorem St.weak {H' : AHeap} (x : St F c h₀ m H s) (h : ∀ a o, H' a = some o → H a = some o) : St F c h₀ m H' s :=
  ⟨x.ok, x.sta, x.ns, x.loc, x.nd, x.keep, x.newL, fun a o e => x.heap a o (h a o e), x.gens, x.os, x.gp⟩
/-- the heap has grown; nothing that stood has changed -/
theorem St.grow (x : St F c h₀ m H s) {h' : Heap} {t : Nat} (k : ∀ b o, s.heap.get? b = some o → h'.get? b = some o) : St F c h₀ m H { s with heap := h', toks := t } :=
  ⟨x.ok, x.sta, let ⟨mm, n, r⟩ := x.ns; ⟨mm, n.keeps k, r⟩, x.loc, x.nd, fun b o e => k b o (x.keep b o e), x.newL,
    fun a o e => let ⟨⟨ob, g, i⟩, n⟩ := x.heap a o e; ⟨⟨ob, k _ _ g, i⟩, n⟩, x.gens, x.os, x.gp⟩
/-- a new object, known -/
theorem St.add (x : St F c h₀ m H s) {h' : Heap} {t : Nat} {a : Addr} {o : AObj} {ob : Obj} (k : ∀ b o, s.heap.get? b = some o → h'.get? b = some o) (hn : s.heap.get? a = none) (hg : h'.get? a = some ob) (hi : o.Is ob) :
    St F c h₀ m (H.set a o) { s with heap := h', toks := t } ∧ H a = none := by
  have hL : a ≠ c.env.locals := fun e => by
    obtain ⟨mm, ⟨oL, es, ep, ho, _⟩, _⟩ := x.ns
    rw [← e, hn] at ho; cases ho
  have h0 : h₀.get? a = none := by
    cases q : h₀.get? a with
    | none => rfl
    | some ob' => have := x.keep _ _ q; rw [hn] at this; cases this
  have y := x.grow (t := t) k
  refine ⟨⟨y.ok, y.sta, y.ns, y.loc, y.nd, y.keep, y.newL, fun b ob' e => ?_, y.gens, y.os, y.gp⟩, ?_⟩
  · by_cases q : b = a
    · subst q; rw [AHeap.set_same] at e; cases e
      exact ⟨⟨ob, hg, hi⟩, hL, h0⟩
    · rw [AHeap.set_ne _ _ q] at e; exact y.heap b ob' e
  · cases q : H a with
    | none => rfl
    | some o' => obtain ⟨⟨ob', g, _⟩, _⟩ := x.heap a o' q; rw [hn] at g; cases g
theorem St.new (x : St F c h₀ m H s) {o : AObj} {ob : Obj} (hi : o.Is ob) (hf : ob.isFreed = false) :
    St F c h₀ m (H.set s.heap.objs.size o) { s with heap := s.heap.push ob } ∧ H s.heap.objs.size = none :=
  x.add (t := s.toks) (fun b o' e => Heap.get?_push_of_some _ e) (Heap.get?_none_of_le (Nat.le_refl _)) (Heap.get?_push_size _ hf) hi
/-- an object of ours is changed -/
theorem St.upd (x : St F c h₀ m H s) {h' : Heap} {t : Nat} {a : Addr} {o o' : AObj} {ob : Obj} (ha : H a = some o) (sb : Heap.SameBut a s.heap h') (hg : h'.get? a = some ob) (hi : o'.Is ob) :
    St F c h₀ m (H.set a o') { s with heap := h', toks := t } := by
  obtain ⟨_, nL, n0⟩ := x.heap a o ha
  refine ⟨x.ok, x.sta, ?_, x.loc, x.nd, fun b ob' e => ?_, x.newL, fun b ob' e => ?_, x.gens, x.os, x.gp⟩
  · obtain ⟨mm, n, r⟩ := x.ns
    exact ⟨mm, n.sameBut sb (Ne.symm nL), r⟩
  · refine (sb.2 b fun q => ?_).trans (x.keep b ob' e)
    rw [q, n0] at e; cases e
  · by_cases q : b = a
    · subst q; rw [AHeap.set_same] at e; cases e
      exact ⟨⟨ob, hg, hi⟩, nL, n0⟩
    · rw [AHeap.set_ne _ _ q] at e
      obtain ⟨⟨ob'', g, i⟩, r⟩ := x.heap b ob' e
      exact ⟨⟨ob'', (sb.2 b q).trans g, i⟩, r⟩
/-- a local name is stored -/
theorem St.store (x : St F c h₀ m H s) {y : Str} {v : AV} {u : Value} {h' : Heap} {t : Nat} {mm : Str → Option Value} (hp : Put m y v m') (hu : v.Is u) (hmm : ∀ x v, (x, some v) ∈ m → ∃ u, mm x = some u ∧ v.Is u)
    (hn : h'.Ns c.env.locals (fun z => if z = y then some u else mm z)) (sb : Heap.SameBut c.env.locals s.heap h') : St F c h₀ m' H { s with heap := h', toks := t } := by
  refine ⟨x.ok, x.sta, ⟨_, hn, fun z w hz => ?_⟩, by rw [hp.keys]; exact x.loc, by rw [hp.keys]; exact x.nd, fun b o e => ?_, x.newL, fun a o e => ?_, x.gens, x.os, x.gp⟩
  · rcases hp.old x.nd z _ hz with ⟨rfl, e⟩ | ⟨q, hz⟩
    · cases e; exact ⟨u, if_pos rfl, hu⟩
    · obtain ⟨u', e', i'⟩ := hmm z w hz
      exact ⟨u', (if_neg q).trans e', i'⟩
  · refine (sb.2 b fun q => ?_).trans (x.keep b o e)
    rw [q, x.newL] at e; cases e
  · obtain ⟨⟨ob, g, i⟩, nL, n0⟩ := x.heap a o e
    exact ⟨⟨ob, (sb.2 a nL).trans g, i⟩, nL, n0⟩
end

abbrev XP := Heap → Value → Shared → Prop
abbrev noX : XP := fun _ _ _ => False

/-- how a run of ours ends: a value, a truth, locals, values, a flow -/
inductive PV (F : FC) (c : Cx) (h₀ : Heap) (m : Loc) (Q : AV → AHeap → Prop) (v : Value) (s' : Shared) : Prop
  | mk (av : AV) (H' : AHeap) (x : St F c h₀ m H' s') (i : av.Is v) (q : Q av H')
inductive PB (F : FC) (c : Cx) (h₀ : Heap) (m : Loc) (Q : AHeap → Prop) (s' : Shared) : Prop
  | mk (H' : AHeap) (x : St F c h₀ m H' s') (q : Q H')
inductive PU (F : FC) (c : Cx) (h₀ : Heap) (Q : Loc → AHeap → Prop) (s' : Shared) : Prop
  | mk (m' : Loc) (H' : AHeap) (x : St F c h₀ m' H' s') (q : Q m' H')
inductive PL (F : FC) (c : Cx) (h₀ : Heap) (m : Loc) (Q : List AV → AHeap → Prop) (vs : List Value) (s' : Shared) : Prop
  | mk (avs : List AV) (H' : AHeap) (x : St F c h₀ m H' s') (i : IsAll avs vs) (q : Q avs H')
structure WV (F : FC) (c : Cx) (t : Sem Value) (Q : AV → AHeap → Prop) (X : XP) (m : Loc) (H : AHeap) : Prop where
  run : ∀ h₀ s, St F c h₀ m H s → wpC (model F.prog c.w) c.A t (fun v s' => PV F c h₀ m Q v s') (X h₀) s
abbrev WE (F : FC) (c : Cx) (e : Expr) (Q : AV → AHeap → Prop) (X : XP) (m : Loc) (H : AHeap) : Prop := WV F c (eval e c.env) Q X m H
structure WT (F : FC) (c : Cx) (t : Sem Bool) (Q : Bool → AHeap → Prop) (X : XP) (m : Loc) (H : AHeap) : Prop where
  run : ∀ h₀ s, St F c h₀ m H s → wpC (model F.prog c.w) c.A t (fun b s' => PB F c h₀ m (Q b) s') (X h₀) s
abbrev WB (F : FC) (c : Cx) (e : Expr) (Q : Bool → AHeap → Prop) (X : XP) (m : Loc) (H : AHeap) : Prop := WT F c (isTrue e c.env (eval e c.env)) Q X m H
structure WU (F : FC) (c : Cx) (t : Sem Unit) (Q : Loc → AHeap → Prop) (X : XP) (m : Loc) (H : AHeap) : Prop where
  run : ∀ h₀ s, St F c h₀ m H s → wpC (model F.prog c.w) c.A t (fun _ s' => PU F c h₀ Q s') (X h₀) s
structure WL (F : FC) (c : Cx) (t : Sem (List Value)) (Q : List AV → AHeap → Prop) (X : XP) (m : Loc) (H : AHeap) : Prop where
  run : ∀ h₀ s, St F c h₀ m H s → wpC (model F.prog c.w) c.A t (fun vs s' => PL F c h₀ m Q vs s') (X h₀) s

inductive AFlow where
  | next | brk | cont | ret (v : AV)
def AFlow.Is : AFlow → Flow → Prop
  | .next, f => f = .next
  | .brk, f => f = .brk
  | .cont, f => f = .cont
  | .ret a, f => ∃ v, f = .ret v ∧ a.Is v
inductive PF (F : FC) (c : Cx) (h₀ : Heap) (Q : AFlow → Loc → AHeap → Prop) (f : Flow) (s' : Shared) : Prop
  | mk (af : AFlow) (m' : Loc) (H' : AHeap) (x : St F c h₀ m' H' s') (i : af.Is f) (q : Q af m' H')
structure WF (F : FC) (c : Cx) (t : Sem Flow) (Q : AFlow → Loc → AHeap → Prop) (X : XP) (m : Loc) (H : AHeap) : Prop where
  run : ∀ h₀ s, St F c h₀ m H s → wpC (model F.prog c.w) c.A t (fun f s' => PF F c h₀ Q f s') (X h₀) s
abbrev WS (F : FC) (c : Cx) (st : Stmt) := WF F c (exec st c.env)
abbrev WSs (F : FC) (c : Cx) (st : List Stmt) := WF F c (execs st c.env)

section
variable {F : FC} {c : Cx} {X : XP} {m : Loc} {H : AHeap}

theorem WV.mono {t : Sem Value} {Q Q' : AV → AHeap → Prop} (h : WV F c t Q X m H) (k : ∀ a H, Q a H → Q' a H) : WV F c t Q' X m H :=
  .mk fun h₀ s x => wpC_mono (h.run h₀ s x) (fun _ _ ⟨a, H', y, i, q⟩ => ⟨a, H', y, i, k a H' q⟩) fun _ _ z => z
theorem WF.mono {t : Sem Flow} {Q Q' : AFlow → Loc → AHeap → Prop} (h : WF F c t Q X m H) (k : ∀ a m H, Q a m H → Q' a m H) : WF F c t Q' X m H :=
  .mk fun h₀ s x => wpC_mono (h.run h₀ s x) (fun _ _ ⟨a, m', H', y, i, q⟩ => ⟨a, m', H', y, i, k a m' H' q⟩) fun _ _ z => z
theorem WV.noX {t : Sem Value} {Q : AV → AHeap → Prop} (h : WV F c t Q noX m H) : WV F c t Q X m H :=
  .mk fun h₀ s x => wpC_mono (h.run h₀ s x) (fun _ _ z => z) fun _ _ z => z.elim
theorem WF.weak {t : Sem Flow} {Q : AFlow → Loc → AHeap → Prop} {H' : AHeap} (k : H'.Sub H) (h : WF F c t Q X m H') : WF F c t Q X m H :=
  .mk fun h₀ s x => h.run h₀ s (x.weak k)
theorem WV.weak {t : Sem Value} {Q : AV → AHeap → Prop} {H' : AHeap} (h : WV F c t Q X m H') (k : ∀ a o, H' a = some o → H a = some o) : WV F c t Q X m H :=
  .mk fun h₀ s x => h.run h₀ s (x.weak k)

/-- a leaf of the library: a value in hand -/
theorem WV.leaf {t : Sem Value} {Q : AV → AHeap → Prop}
    (h : ∀ h₀ s, St F c h₀ m H s → ∀ Q' : Value → Shared → Prop, (∀ v s' a H', St F c h₀ m H' s' → a.Is v → Q a H' → Q' v s') → wpAny (model F.prog c.w) c.A t Q' (X h₀) s) : WV F c t Q X m H :=
  .mk fun h₀ s x => wpC_any (h h₀ s x _ fun _ _ a H' y i q => ⟨a, H', y, i, q⟩)

-- statements
theorem WSs_nil {Q : AFlow → Loc → AHeap → Prop} (h : Q .next m H) : WSs F c [] Q X m H := .mk fun h₀ s x => wpC_pure ⟨.next, m, H, x, rfl, h⟩
def seqQ (F : FC) (c : Cx) (rest : List Stmt) (Q : AFlow → Loc → AHeap → Prop) (X : XP) : AFlow → Loc → AHeap → Prop
  | .next, m, H => WSs F c rest Q X m H
  | f, m, H => Q f m H
theorem WSs_cons {st : Stmt} {rest : List Stmt} {Q : AFlow → Loc → AHeap → Prop} (h : WS F c st (seqQ F c rest Q X) X m H) : WSs F c (st :: rest) Q X m H := .mk fun h₀ s x => by
  rw [execs_cons]
  refine wpC_then (h.run h₀ s x) fun f s' ⟨af, m', H', y, i, q⟩ => ?_
  cases af with
  | next => cases i; exact (show WSs F c rest Q X m' H' from q).run h₀ s' y
  | brk => cases i; exact wpC_pure ⟨.brk, m', H', y, rfl, q⟩
  | cont => cases i; exact wpC_pure ⟨.cont, m', H', y, rfl, q⟩
  | ret a => obtain ⟨v, rfl, i⟩ := i; exact wpC_pure ⟨.ret a, m', H', y, ⟨v, rfl, i⟩, q⟩
theorem WS_Pass {pos : Pos} {Q : AFlow → Loc → AHeap → Prop} (h : Q .next m H) : WS F c (.Pass pos) Q X m H := .mk fun h₀ s x => by
  rw [exec_Pass]; exact wpC_at (wpC_pure ⟨.next, m, H, x, rfl, h⟩)
theorem WS_Return {e : Expr} {pos : Pos} {Q : AFlow → Loc → AHeap → Prop} (h : WE F c e (fun a H => Q (.ret a) m H) X m H) : WS F c (.Return (some e) pos) Q X m H := .mk fun h₀ s x => by
  rw [exec_Return_some]
  exact wpC_at (wpC_then (h.run h₀ s x) fun v s' ⟨a, H', y, i, q⟩ => wpC_pure ⟨.ret a, m, H', y, ⟨v, rfl, i⟩, q⟩)
theorem WS_If {test : Expr} {body orelse : List Stmt} {pos : Pos} {Q : AFlow → Loc → AHeap → Prop}
    (h : WB F c test (fun b H => if b = true then WSs F c body Q X m H else WSs F c orelse Q X m H) X m H) : WS F c (.If test body orelse pos) Q X m H := .mk fun h₀ s x => by
  rw [exec_If]
  refine wpC_at (wpC_then (h.run h₀ s x) fun b s' ⟨H', y, q⟩ => ?_)
  cases b with
  | true => exact q.run h₀ s' y
  | false => exact q.run h₀ s' y
/-- what is asked of a value that is stored, and of one that is dropped -/
def putQ (m : Loc) (x : Str) (Q : AFlow → Loc → AHeap → Prop) (a : AV) (H : AHeap) : Prop := ∃ m', Put m x a m' ∧ Q .next m' H
def noneQ (m : Loc) (Q : AFlow → Loc → AHeap → Prop) (a : AV) (H : AHeap) : Prop := a = .none ∧ Q .next m H
theorem WS_Assign {x : Str} {pos' pos : Pos} {value : Expr} {Q : AFlow → Loc → AHeap → Prop}
    (h : WE F c value (putQ m x Q) X m H) (hs : swapsWith value (some (.Name x pos')) pos.line c.env = pure false := by rfl) :
    WS F c (.Assign [.Name x pos'] value pos) Q X m H := .mk fun h₀ s y => by
  rw [exec_Assign_Name _ _ _ _ _ hs]
  refine wpC_at (wpC_then (h.run h₀ s y) fun v s' ⟨a, H', z, i, m', hp, q⟩ => wpC_at (wpC_bind (wpC_any (wpAny_bindName ?_))))
  have hk : c.env.kindOf x = some .local := by
    unfold Env.kindOf; rw [z.ok.scope]; exact (z.loc x hp.has).1
  obtain ⟨mm, hn, hmm⟩ := z.ns
  refine wpAny_storeName_local hk hn (fun h' hn' sb => wpC_pure ⟨.next, m', H', z.store hp i hmm hn' sb, rfl, q⟩) ?_
  rw [z.ok.scope, z.ok.kind]; rfl
theorem WS_Expr {e : Expr} {pos : Pos} {Q : AFlow → Loc → AHeap → Prop} (h : WE F c e (noneQ m Q) X m H)
    (hs : swapsWith e none pos.line c.env = pure false := by rfl) : WS F c (.Expr e pos) Q X m H := .mk fun h₀ s x => by
  have hi : interactive c.env = false := by unfold interactive; rw [x.ok.scope, x.ok.kind]; rfl
  rw [exec_Expr _ _ _ hi hs]
  refine wpC_at (wpC_then (h.run h₀ s x) fun v s' ⟨a, H', y, i, ha, q⟩ => ?_)
  subst ha
  obtain rfl : v = .none := i
  rw [dropValue_plain (by intro a e; cases e)]
  exact wpC_pure ⟨.next, m, H', y, rfl, q⟩

-- expressions
theorem WE_none {k : Nat} {pos : Pos} {Q : AV → AHeap → Prop} (h : Q .none H) : WE F c (.Constant .none k pos) Q X m H := .mk fun h₀ s x => wpC_pure ⟨.none, H, x, rfl, h⟩
theorem WE_bool {b : Bool} {k : Nat} {pos : Pos} {Q : AV → AHeap → Prop} (h : Q (.bool b) H) : WE F c (.Constant (.bool b) k pos) Q X m H := .mk fun h₀ s x => wpC_pure ⟨.bool b, H, x, rfl, h⟩
theorem WE_int {i : Int} {k : Nat} {pos : Pos} {Q : AV → AHeap → Prop} (h : Q (.int i) H) : WE F c (.Constant (.int i) k pos) Q X m H :=
  .mk fun h₀ s x => wpC_any (wpAny_Constant_int ⟨.int i, H, x.toks _, ⟨_, rfl⟩, h⟩)
theorem WE_str {i : Str} {k : Nat} {pos : Pos} {Q : AV → AHeap → Prop} (h : Q (.str i) H) : WE F c (.Constant (.str i) k pos) Q X m H :=
  .mk fun h₀ s x => wpC_any (wpAny_Constant_str ⟨.str i, H, x.toks _, ⟨_, rfl⟩, h⟩)
theorem WE_local {x : Str} {v : AV} {pos : Pos} {Q : AV → AHeap → Prop} (hv : At m x v) (h : Q v H) : WE F c (.Name x pos) Q X m H := .mk fun h₀ s y => by
  obtain ⟨hk', hd⟩ := y.loc x (List.mem_map.mpr ⟨_, hv.mem, rfl⟩)
  have hk : c.env.kindOf x = some .local := by
    unfold Env.kindOf; rw [y.ok.scope]; exact hk'
  obtain ⟨mm, hn, hmm⟩ := y.ns
  obtain ⟨u, hu, hi⟩ := hmm x v hv.mem
  exact wpC_any (wpAny_Name (wpAny_loadName_local (by rw [y.ok.scope]; exact y.ok.kind) hk hn hu ⟨v, H, y, hi, h⟩) hd)
theorem WE_global {x : Str} {v : AV} {u : Value} {pos : Pos} {Q : AV → AHeap → Prop} (hx : F.scope.names.lookup x = some .globalImplicit) (e : nsIn (F.K c.w.params) mainGlobals x = some (some u)) (hi : v.Is u) (h : Q v H)
    (hd : (x == ("__debug__" : Str)) = false := by decide) : WE F c (.Name x pos) Q X m H := .mk fun h₀ s y => by
  have hk : c.env.kindOf x = some .globalImplicit := by unfold Env.kindOf; rw [y.ok.scope]; exact hx
  obtain ⟨p, loose, mg, mb, T⟩ := y.sta.top
  refine wpC_any (PySem.Calls.Name_function_global (by rw [y.ok.scope]; exact y.ok.kind) hk (PySem.Calls.loadGlobal_global (mg := mg) ?_ ?_ ⟨v, H, y, hi, h⟩) hd)
  · rw [y.ok.glob]; exact T.g.keeps y.keep
  · exact mg_of y.sta.K T.g e
theorem WE_builtin {x : Str} {v : AV} {u : Value} {pos : Pos} {Q : AV → AHeap → Prop} (hx : F.scope.names.lookup x = some .globalImplicit) (e : nsIn (F.K c.w.params) mainGlobals x = some none) (hb : bootBuiltins x = some u) (hi : v.Is u) (h : Q v H)
    (hn : x ≠ "__name__" := by decide) (hd : (x == ("__debug__" : Str)) = false := by decide) : WE F c (.Name x pos) Q X m H := .mk fun h₀ s y => by
  have hk : c.env.kindOf x = some .globalImplicit := by unfold Env.kindOf; rw [y.ok.scope]; exact hx
  obtain ⟨p, loose, mg, mb, T⟩ := y.sta.top
  refine wpC_any (PySem.Calls.Name_function_global (by rw [y.ok.scope]; exact y.ok.kind) hk (PySem.Calls.loadGlobal_builtin (mg := mg) (mb := mb) ?_ ?_ ?_ ((T.builtins x hn).trans hb) ⟨v, H, y, hi, h⟩) hd)
  · rw [y.ok.glob]; exact T.g.keeps y.keep
  · exact mg_none_of y.sta.K T.g e
  · rw [y.ok.bui]; exact T.b.keeps y.keep
end
end Mine
end
section
open PySem PySem.W PyProof.Rows
set_option Elab.async false
set_option linter.unusedVariables false
namespace Mine

def WOp (F : FC) (c : Cx) (op : Operator) (a b : AV) (Q : AV → AHeap → Prop) (X : XP) (m : Loc) (H : AHeap) : Prop :=
  ∀ va vb, a.Is va → b.Is vb → WV F c (binaryOp op va vb) Q X m H
def WIop (F : FC) (c : Cx) (op : Operator) (a b : AV) (Q : AV → AHeap → Prop) (X : XP) (m : Loc) (H : AHeap) : Prop :=
  ∀ va vb, a.Is va → b.Is vb → WV F c (inplaceOp op va vb) Q X m H
def WCmp (F : FC) (c : Cx) (op : CmpOp) (a b : AV) (Q : Bool → AHeap → Prop) (X : XP) (m : Loc) (H : AHeap) : Prop :=
  ∀ va vb, a.Is va → b.Is vb → WV F c (compareOp op va vb) (fun r H => ∃ b, r = .bool b ∧ Q b H) X m H
def WUn (F : FC) (c : Cx) (op : UnaryOp) (a : AV) (Q : AV → AHeap → Prop) (X : XP) (m : Loc) (H : AHeap) : Prop :=
  ∀ va, a.Is va → WV F c (unaryOp op va) Q X m H
def WCall (F : FC) (c : Cx) (f : AV) (as : List AV) (Q : AV → AHeap → Prop) (X : XP) (m : Loc) (H : AHeap) : Prop :=
  ∀ vf vs, f.Is vf → IsAll as vs → WV F c (call vf vs) Q X m H
def WSub (F : FC) (c : Cx) (value slice : Expr) (a i : AV) (Q : AV → AHeap → Prop) (X : XP) (m : Loc) (H : AHeap) : Prop :=
  ∀ va vi, a.Is va → i.Is vi → WV F c (subscriptTail value slice va vi) Q X m H
abbrev WSpl (F : FC) (c : Cx) (pos : Pos) (es : List Expr) (Q : List AV → AHeap → Prop) (X : XP) (m : Loc) (H : AHeap) : Prop :=
  WL F c (spliced (backTo pos (starEach es c.env))) Q X m H

section
variable {F : FC} {c : Cx} {X : XP} {m : Loc} {H : AHeap}
theorem WE_BinOp {l r : Expr} {op : Operator} {pos : Pos} {Q : AV → AHeap → Prop}
    (h : WE F c l (fun a H => WE F c r (fun b H => WOp F c op a b Q X m H) X m H) X m H) : WE F c (.BinOp l op r pos) Q X m H := .mk fun h₀ s x => by
  rw [eval_BinOp]
  refine wpC_then (h.run h₀ s x) fun va s1 ⟨a, H1, x1, i1, q1⟩ => ?_
  refine wpC_then (wpC_holding (q1.run h₀ s1 x1)) fun vb s2 ⟨b, H2, x2, i2, q2⟩ => ?_
  exact wpC_at (wpC_operate ((q2 va vb i1 i2).run h₀ s2 x2))
theorem WE_Unary {e : Expr} {op : UnaryOp} {pos : Pos} {Q : AV → AHeap → Prop}
    (h : WE F c e (fun a H => WUn F c op a Q X m H) X m H) : WE F c (.UnaryOp op e pos) Q X m H := .mk fun h₀ s x => by
  rw [arm_eval_UnaryOp]
  refine wpC_then (h.run h₀ s x) fun va s1 ⟨a, H1, x1, i1, q1⟩ => ?_
  exact wpC_at (wpC_holding ((q1 va i1).run h₀ s1 x1))
theorem WE_IfExp {t b o : Expr} {pos : Pos} {Q : AV → AHeap → Prop}
    (h : WB F c t (fun v H => if v = true then WE F c b Q X m H else WE F c o Q X m H) X m H) : WE F c (.IfExp t b o pos) Q X m H := .mk fun h₀ s x => by
  rw [arm_eval_IfExp]
  refine wpC_then (h.run h₀ s x) fun v s1 ⟨H1, x1, q1⟩ => ?_
  cases v with
  | true => exact q1.run h₀ s1 x1
  | false => exact q1.run h₀ s1 x1
theorem WE_Compare {l r : Expr} {op : CmpOp} {pos : Pos} {Q : AV → AHeap → Prop}
    (h : WE F c l (fun a H => WE F c r (fun b H => WCmp F c op a b (fun v H => Q (.bool v) H) X m H) X m H) X m H) (hb : behindInMarks op r = false := by rfl) : WE F c (.Compare l [op] [r] pos) Q X m H := .mk fun h₀ s x => by
  rw [eval_Compare1, markedBehindIn_of_false hb]
  refine wpC_then (h.run h₀ s x) fun va s1 ⟨a, H1, x1, i1, q1⟩ => ?_
  refine wpC_then (wpC_holding (q1.run h₀ s1 x1)) fun vb s2 ⟨b, H2, x2, i2, q2⟩ => ?_
  refine wpC_at (wpC_operate (wpC_mono ((q2 va vb i1 i2).run h₀ s2 x2) (fun v s3 ⟨r, H3, x3, i3, b', e, q3⟩ => ?_) fun _ _ z => z))
  subst e; exact ⟨_, H3, x3, i3, q3⟩
theorem WB_Compare {l r : Expr} {op : CmpOp} {pos : Pos} {Q : Bool → AHeap → Prop}
    (h : WE F c l (fun a H => WE F c r (fun b H => WCmp F c op a b Q X m H) X m H) X m H) (hb : behindInMarks op r = false := by rfl) : WB F c (.Compare l [op] [r] pos) Q X m H := .mk fun h₀ s x => by
  rw [isTrue_Compare1, markedBehindIn_of_false hb]
  refine wpC_then (h.run h₀ s x) fun va s1 ⟨a, H1, x1, i1, q1⟩ => ?_
  refine wpC_then (wpC_holding (q1.run h₀ s1 x1)) fun vb s2 ⟨b, H2, x2, i2, q2⟩ => ?_
  refine wpC_at (wpC_then (wpC_operate ((q2 va vb i1 i2).run h₀ s2 x2)) fun v s3 ⟨r, H3, x3, i3, b', e, q3⟩ => ?_)
  subst e; obtain rfl : v = .bool b' := i3
  exact wpC_holding (wpC_any (wpAny_truthy_bool ⟨H3, x3, q3⟩))
/-- a chain of two comparisons -/
theorem WB_Compare2 {l r r' : Expr} {op op' : CmpOp} {pos : Pos} {Q : Bool → AHeap → Prop}
    (h : WE F c l (fun a H => WE F c r (fun b H => WCmp F c op a b (fun v H => if v = true then WE F c r' (fun d H => WCmp F c op' b d Q X m H) X m H else Q false H) X m H) X m H) X m H)
    (hb : behindInMarks op' r' = false := by rfl) : WB F c (.Compare l [op, op'] [r, r'] pos) Q X m H := .mk fun h₀ s x => by
  rw [arm_isTrue_Compare]
  refine wpC_then (h.run h₀ s x) fun va s1 ⟨a, H1, x1, i1, q1⟩ => ?_
  show wpC _ _ (do
    let rv ← holding [va] (eval r c.env)
    standAt pos
    let k ← holding [va, rv] (compareOp op va rv)
    release [va, rv] [k]
    if ← holding [k, rv] (truthy k) then testChain pos rv [op'] [markedBehindIn op' r' (eval r' c.env)] else pure false) _ _ _
  rw [markedBehindIn_of_false hb]
  refine wpC_then (wpC_holding (q1.run h₀ s1 x1)) fun vb s2 ⟨b, H2, x2, i2, q2⟩ => ?_
  refine wpC_at (wpC_then (wpC_holding ((q2 va vb i1 i2).run h₀ s2 x2)) fun v s3 ⟨r, H3, x3, i3, b', e, q3⟩ => ?_)
  subst e; obtain rfl : v = .bool b' := i3
  refine wpC_bind (wpC_release (wpC_bind (wpC_holding (wpC_any (wpAny_truthy_bool ?_)))))
  cases b' with
  | false => exact wpC_pure ⟨H3, x3, q3⟩
  | true =>
    show wpC _ _ (do
      let rv ← holding [vb] (eval r' c.env)
      standAt pos
      let k ← operate [vb, rv] (compareOp op' vb rv)
      holding [k] (truthy k)) _ _ _
    refine wpC_then (wpC_holding (q3.run h₀ s3 x3)) fun vd s4 ⟨d, H4, x4, i4, q4⟩ => ?_
    refine wpC_at (wpC_then (wpC_operate ((q4 vb vd i2 i4).run h₀ s4 x4)) fun v s5 ⟨r, H5, x5, i5, b'', e, q5⟩ => ?_)
    subst e; obtain rfl : v = .bool b'' := i5
    exact wpC_holding (wpC_any (wpAny_truthy_bool ⟨H5, x5, q5⟩))
theorem WB_Not {e : Expr} {pos : Pos} {Q : Bool → AHeap → Prop} (h : WB F c e (fun b H => Q (!b) H) X m H) : WB F c (.UnaryOp .Not e pos) Q X m H := .mk fun h₀ s x => by
  show wpC _ _ (isTrue (.UnaryOp .Not e pos) c.env _) _ _ _
  rw [arm_isTrue_UnaryOp]
  exact wpC_then (h.run h₀ s x) fun b s1 ⟨H1, x1, q1⟩ => wpC_pure ⟨H1, x1, q1⟩
theorem WB_val {e : Expr} {Q : Bool → AHeap → Prop} (h : WE F c e (fun a H => ∃ b, a = .bool b ∧ Q b H) X m H)
    (he : isTrue e c.env (eval e c.env) = (do let v ← eval e c.env; standAt e.pos; holding [v] (truthy v)) := by rfl) : WB F c e Q X m H := .mk fun h₀ s x => by
  rw [he]
  refine wpC_then (h.run h₀ s x) fun v s1 ⟨a, H1, x1, i1, b, e, q1⟩ => ?_
  subst e; obtain rfl : v = .bool b := i1
  exact wpC_at (wpC_holding (wpC_any (wpAny_truthy_bool ⟨H1, x1, q1⟩)))
abbrev WAll (F : FC) (c : Cx) (op : BoolOp) (es : List Expr) (Q : Bool → AHeap → Prop) (X : XP) (m : Loc) (H : AHeap) : Prop := WT F c (allTrue op es c.env) Q X m H
theorem WB_Bool {op : BoolOp} {es : List Expr} {pos : Pos} {Q : Bool → AHeap → Prop} (h : WAll F c op es Q X m H) : WB F c (.BoolOp op es pos) Q X m H := .mk fun h₀ s x => by
  show wpC _ _ (isTrue (.BoolOp op es pos) c.env _) _ _ _
  rw [arm_isTrue_BoolOp]; exact h.run h₀ s x
theorem WAll_and_nil {Q : Bool → AHeap → Prop} (h : Q true H) : WAll F c .And [] Q X m H := .mk fun h₀ s x => wpC_pure ⟨H, x, h⟩
theorem WAll_or_nil {Q : Bool → AHeap → Prop} (h : Q false H) : WAll F c .Or [] Q X m H := .mk fun h₀ s x => wpC_pure ⟨H, x, h⟩
theorem WAll_and {e : Expr} {es : List Expr} {Q : Bool → AHeap → Prop} (h : WB F c e (fun b H => if b = true then WAll F c .And es Q X m H else Q false H) X m H) : WAll F c .And (e :: es) Q X m H := .mk fun h₀ s x => by
  show wpC _ _ (do match BoolOp.And, ← isTrue e c.env (eval e c.env) with | .And, false => pure false | .Or, true => pure true | _, _ => allTrue .And es c.env) _ _ _
  refine wpC_then (h.run h₀ s x) fun b s1 ⟨H1, x1, q1⟩ => ?_
  cases b with
  | false => exact wpC_pure ⟨H1, x1, q1⟩
  | true => exact q1.run h₀ s1 x1
theorem WAll_or {e : Expr} {es : List Expr} {Q : Bool → AHeap → Prop} (h : WB F c e (fun b H => if b = true then Q true H else WAll F c .Or es Q X m H) X m H) : WAll F c .Or (e :: es) Q X m H := .mk fun h₀ s x => by
  show wpC _ _ (do match BoolOp.Or, ← isTrue e c.env (eval e c.env) with | .And, false => pure false | .Or, true => pure true | _, _ => allTrue .Or es c.env) _ _ _
  refine wpC_then (h.run h₀ s x) fun b s1 ⟨H1, x1, q1⟩ => ?_
  cases b with
  | false => exact q1.run h₀ s1 x1
  | true => exact wpC_pure ⟨H1, x1, q1⟩
/-- `x and y` as a value, the left a bool -/
theorem WE_And {e e' : Expr} {pos : Pos} {Q : AV → AHeap → Prop} (h : WE F c e (fun a H => ∃ b, a = .bool b ∧ if b = true then WE F c e' Q X m H else Q (.bool false) H) X m H) : WE F c (.BoolOp .And [e, e'] pos) Q X m H := .mk fun h₀ s x => by
  show wpC _ _ (do
    let v ← eval e c.env
    standAt pos
    let t ← holding [v] (truthy v)
    match BoolOp.And, t with
    | .And, false | .Or, true => pure v
    | _, _ => boolOp pos .And [eval e' c.env]) _ _ _
  refine wpC_then (h.run h₀ s x) fun v s1 ⟨a, H1, x1, i1, b, e, q1⟩ => ?_
  subst e; obtain rfl : v = .bool b := i1
  refine wpC_at (wpC_bind (wpC_holding (wpC_any (wpAny_truthy_bool ?_))))
  cases b with
  | false => exact wpC_pure ⟨.bool false, H1, x1, rfl, q1⟩
  | true => exact q1.run h₀ s1 x1

-- lists of arguments
theorem WSpl_nil {pos : Pos} {Q : List AV → AHeap → Prop} (h : Q [] H) : WSpl F c pos [] Q X m H := .mk fun h₀ s x => wpC_pure ⟨[], H, x, trivial, h⟩
theorem WSpl_cons {pos : Pos} {e : Expr} {es : List Expr} {Q : List AV → AHeap → Prop}
    (h : WE F c e (fun a H => WSpl F c pos es (fun as H => Q (a :: as) H) X m H) X m H) (he : starEach (e :: es) c.env = (false, eval e c.env) :: starEach es c.env := by rfl) : WSpl F c pos (e :: es) Q X m H := .mk fun h₀ s x => by
  rw [he]
  show wpC _ _ (do
    let v ← eval e c.env
    let here ← (pure [v] : Sem (List Value))
    return here ++ (← holding here (spliced (backTo pos (starEach es c.env))))) _ _ _
  refine wpC_then (h.run h₀ s x) fun v s1 ⟨a, H1, x1, i1, q1⟩ => ?_
  refine wpC_bind (wpC_pure (wpC_then (wpC_holding (q1.run h₀ s1 x1)) fun vs s2 ⟨as, H2, x2, i2, q2⟩ => ?_))
  exact wpC_pure ⟨a :: as, H2, x2, ⟨i1, i2⟩, q2⟩

/-- a call: of what is known by its value -/
inductive Callee (F : FC) (c : Cx) : AV → Prop
  | type (n : String) : Callee F c (.type n)
  | builtin (n : String) : Callee F c (.builtin n)
  | fn {a : Addr} {o : Obj} {fd : FuncData} (h : (F.K c.w.params).lookup a = some o) (e : o.data = .func fd) : Callee F c (.ref a)

theorem evalArgs_C {M : Model} {A : Around} {E : Value → Shared → Prop} {s : Shared} {f : Value} {args : List (Bool × Sem Value)} {Q : Args → Shared → Prop} (hp : args.any (·.1) = false)
    (h : wpC M A (spliced args) (fun vs s' => Q ⟨vs, []⟩ s') E s) : wpC M A (evalArgs f true args []) Q E s := by
  have key : wpC M A (spliced args >>= fun p => holding (p ++ []) (do return ⟨← (pure p : Sem (List Value)), []⟩)) Q E s :=
    wpC_then h fun vs s' q => wpC_holding (wpC_bind (wpC_pure (wpC_pure q)))
  cases args with
  | nil =>
    unfold evalArgs
    exact key
  | cons x r =>
    obtain ⟨b, t⟩ := x
    cases b with
    | true => simp at hp
    | false =>
      unfold evalArgs
      exact key
theorem callWith_C {pos : Pos} {f : AV} {vf : Value} {first : List AV} {vfirst : List Value} {args : List (Bool × Sem Value)} {Q : AV → AHeap → Prop} (hp : args.any (·.1) = false) (hn : args.length ≤ 30) (hf : Callee F c f) (hi : f.Is vf) (hfi : IsAll first vfirst)
    (h : WL F c (spliced args) (fun as H => WCall F c f (first ++ as) Q X m H) X m H) : WV F c (callWith pos vf vfirst args []) Q X m H := .mk fun h₀ s x => by
  unfold callWith
  refine wpC_bind (wpC_holding (evalArgs_C hp (wpC_mono (h.run h₀ s x) (fun vs s1 ⟨as, H1, x1, i1, q1⟩ => ?_) fun _ _ z => z)))
  refine wpC_at ?_
  have fin : wpC (model F.prog c.w) c.A (call vf (vfirst ++ vs) []) (fun v s' => PV F c h₀ m Q v s') (X h₀) s1 := (q1 vf _ hi (hfi.append i1)).run h₀ s1 x1
  have tail : ∀ {t : Sem Value}, wpC (model F.prog c.w) c.A t (fun v s' => PV F c h₀ m Q v s') (X h₀) s1 → wpC (model F.prog c.w) c.A (t >>= fun r => holding [r] point >>= fun _ => pure r) (fun v s' => PV F c h₀ m Q v s') (X h₀) s1 :=
    fun ht => wpC_then ht fun r s₂ hr => wpC_bind (wpC_holding (wpC_point (wpC_pure hr)))
  simp only [hp, List.any_nil, Bool.or_false]
  cases hf with
  | type n => obtain rfl : vf = .type n := hi; exact wpC_bind (wpC_pure (tail fin))
  | builtin n => obtain rfl : vf = .builtin n := hi; exact wpC_bind (wpC_pure (tail fin))
  | fn hl e =>
    obtain rfl : vf = .ref _ := hi
    refine wpC_bind (m := keeperOf (.ref _)) ?_
    unfold keeperOf
    refine wpC_bind (wpC_any (wpAny_load (x1.keep _ _ (x1.sta.K _ _ hl)) ?_))
    rw [e]
    refine wpC_pure ?_
    have hlt : ¬ (args.length + 2 * ([] : List (Option Str × Sem Value)).length > 30) := by simp; omega
    first
      | exact tail (by rw [if_neg hlt]; unfold callMarked; exact wpC_keep fin)
      | (rw [if_neg hlt]; exact tail (by unfold callMarked; exact wpC_keep fin))
theorem plain_args {pos : Pos} {es : List Expr} {env : Env} (h : es.all (fun e => !isStarred e) = true) : (backTo pos (starEach es env)).any (·.1) = false ∧ (backTo pos (starEach es env)).length = es.length := by
  induction es with
  | nil => exact ⟨rfl, rfl⟩
  | cons e es ih =>
    simp only [List.all_cons, Bool.and_eq_true] at h
    obtain ⟨h1, h2⟩ := h
    have he : starEach (e :: es) env = (false, eval e env) :: starEach es env := by
      cases e <;> first | rfl | (simp [isStarred] at h1)
    obtain ⟨i1, i2⟩ := ih h2
    rw [he]
    constructor
    · show ((false, _) :: backTo pos (starEach es env)).any (·.1) = false
      rw [List.any_cons, i1]; rfl
    · show ((false, _) :: backTo pos (starEach es env)).length = _
      rw [List.length_cons, List.length_cons, i2]
theorem WE_Call {f : Expr} {args : List Expr} {pos : Pos} {Q : AV → AHeap → Prop}
    (h : WE F c f (fun fv H => Callee F c fv ∧ WSpl F c pos args (fun as H => WCall F c fv as Q X m H) X m H) X m H)
    (he : eval (.Call f args [] pos) c.env = (do callWith pos (← eval f c.env) [] (backTo pos (starEach args c.env)) []) := by rfl)
    (hs : args.all (fun e => !isStarred e) = true := by rfl) (hn : args.length ≤ 30 := by decide) : WE F c (.Call f args [] pos) Q X m H := .mk fun h₀ s x => by
  rw [he]
  obtain ⟨p1, p2⟩ := plain_args (pos := pos) (env := c.env) hs
  refine wpC_then (h.run h₀ s x) fun v s1 ⟨a, H1, x1, i1, k, q1⟩ => ?_
  exact (callWith_C (first := []) (vfirst := []) p1 (by omega) k i1 trivial q1).run h₀ s1 x1
/-- a method's call by the method form: `o.name(args)` -/
def Meth (F : FC) (c : Cx) (name : Str) (a : AV) (id : String) (m : Loc) (H : AHeap) : Prop :=
  ∀ h₀ s v, St F c h₀ m H s → a.Is v → ∀ (pl : Sem Bool) (Q : Value × List Value → Shared → Prop) (E : Value → Shared → Prop), Q (.builtin id, [v]) s → wpAny (model F.prog c.w) c.A (getMethod v name pl) Q E s
theorem WE_Meth {o : Expr} {name : Str} {args : List Expr} {apos pos : Pos} {Q : AV → AHeap → Prop}
    (h : WE F c o (fun a H => ∃ id, Meth F c name a id m H ∧ WSpl F c pos args (fun as H => WCall F c (.builtin id) (a :: as) Q X m H) X m H) X m H)
    (hb : attributeBase o name c.env (eval o c.env) = eval o c.env := by rfl) (hs : args.all (fun e => !isStarred e) = true := by rfl) (hn : args.length < 30 := by decide) (hl : (apos.endLine == pos.line) = true := by rfl) :
    WE F c (.Call (.Attribute o name apos) args [] pos) Q X m H := .mk fun h₀ s x => by
  show wpC _ _ (eval (.Call (.Attribute o name apos) args [] pos) c.env) _ _ _
  rw [arm_eval_Call, hb]
  refine wpC_then (h.run h₀ s x) fun v s1 ⟨a, H1, x1, i1, id, k, q1⟩ => wpC_at ?_
  obtain ⟨p1, p2⟩ := plain_args (pos := pos) (env := c.env) hs
  have few : methodCallForm (args.length + ([] : List Keyword).length) (backTo pos (starEach args c.env)) (backToKw pos (keywordEach [] c.env)) = true := by
    unfold methodCallForm
    have h1 : (backTo pos (starEach args c.env)).all (fun x => !x.1) = true := by
      rw [List.all_eq_not_any_not]
      simp only [Bool.not_not]
      rw [p1]; rfl
    rw [h1]
    show (true && true && decide (args.length + 0 + 0 < 30)) = true
    simp; omega
  unfold methodCall
  rw [few]
  refine wpC_bind (wpC_holding ?_)
  show wpC _ _ (getMethod v name _) _ _ _
  refine wpC_any (k h₀ s1 v x1 i1 _ _ _ ?_)
  show wpC _ _ (methodCallPos true o c.env apos pos >>= fun callPos => callWith callPos (.builtin id) [v] (backTo pos (starEach args c.env)) []) _ _ _
  have hmp : methodCallPos true o c.env apos pos = pure pos := by
    unfold methodCallPos
    rw [hl]; rfl
  rw [hmp]
  refine wpC_bind (wpC_pure ?_)
  exact (callWith_C (first := [a]) (vfirst := [v]) p1 (by omega) (.builtin id) rfl ⟨i1, trivial⟩ q1).run h₀ s1 x1
theorem WE_Sub {value slice : Expr} {pos : Pos} {Q : AV → AHeap → Prop}
    (h : WE F c value (fun a H => WE F c slice (fun i H => WSub F c value slice a i Q X m H) X m H) X m H) : WE F c (.Subscript value slice pos) Q X m H := .mk fun h₀ s x => by
  show wpC _ _ (eval (.Subscript value slice pos) c.env) _ _ _
  rw [eval_Subscript]
  refine wpC_then (h.run h₀ s x) fun va s1 ⟨a, H1, x1, i1, q1⟩ => ?_
  refine wpC_then (wpC_holding (q1.run h₀ s1 x1)) fun vi s2 ⟨i, H2, x2, i2, q2⟩ => ?_
  exact wpC_at ((q2 va vi i1 i2).run h₀ s2 x2)
theorem WS_Aug {y : Str} {v : AV} {pos' pos : Pos} {op : Operator} {e : Expr} {Q : AFlow → Loc → AHeap → Prop} (hv : At m y v)
    (h : WE F c e (fun b H => WIop F c op v b (putQ m y Q) X m H) X m H) : WS F c (.AugAssign (.Name y pos') op e pos) Q X m H := .mk fun h₀ s x => by
  rw [exec_AugAssign_Name]
  have hk : c.env.kindOf y = some .local := by
    unfold Env.kindOf; rw [x.ok.scope]; exact (x.loc y (List.mem_map.mpr ⟨_, hv.mem, rfl⟩)).1
  obtain ⟨mm, hn, hmm⟩ := x.ns
  obtain ⟨u, hu, hi⟩ := hmm y v hv.mem
  refine wpC_at (wpC_bind (wpC_any (wpAny_loadName_local (by rw [x.ok.scope]; exact x.ok.kind) hk hn hu ?_)))
  refine wpC_then (wpC_holding (h.run h₀ s x)) fun vb s1 ⟨b, H1, x1, i1, q1⟩ => ?_
  refine wpC_at (wpC_then (wpC_operate ((q1 u vb hi i1).run h₀ s1 x1)) fun w s2 ⟨a, H2, x2, i2, m', hp, q2⟩ => ?_)
  refine wpC_at (wpC_bind (wpC_any (wpAny_bindName ?_)))
  obtain ⟨mm2, hn2, hmm2⟩ := x2.ns
  refine wpAny_storeName_local hk hn2 (fun h' hn' sb => wpC_pure ⟨.next, m', H2, x2.store hp i2 hmm2 hn' sb, rfl, q2⟩) ?_
  rw [x2.ok.scope, x2.ok.kind]; rfl
end
end Mine
end
section
open PySem PySem.W PyProof.Rows
set_option Elab.async false
set_option linter.unusedVariables false
namespace Mine

def zipL : List Str → List AV → Loc
  | x :: xs, a :: as => (x, some a) :: zipL xs as
  | _, _ => []
theorem zipL_keys : ∀ {ps : List Str} {as : List AV}, ps.length = as.length → (zipL ps as).map (·.1) = ps
  | [], [], _ => rfl
  | x :: xs, a :: as, h => by rw [zipL, List.map_cons, zipL_keys (by simpa using h)]
  | [], _ :: _, h => by simp at h
  | _ :: _, [], h => by simp at h

/-- what a def of the text is -/
structure Fn (F : FC) (a : Addr) (ps : List Str) (body : List Stmt) (P : Params) : Prop where
  obj : ∃ o fd, (F.K P).lookup a = some o ∧ o.data = .func fd ∧ fd.scope = F.scope ∧ fd.globals = mainGlobals ∧ fd.builtins = builtinsNs ∧ fd.closure = [] ∧ fd.body = .stmts body ∧
    codeIn (F.K P) fd.code fd.qualname = true ∧ ∀ vs : List Value, vs.length = ps.length → bindArgs fd ⟨vs, []⟩ = pure (ps.zip vs)
  kind : F.scope.kind = .function
  cor : F.scope.isCoroutine = false
  gen : F.scope.isGenerator = false

def domOf (H : AHeap) (n : Nat) : List Addr := (List.range n).filter fun a => (H a).isSome
theorem mem_domOf {H : AHeap} {n : Nat} {a : Addr} : a ∈ domOf H n ↔ a < n ∧ (H a).isSome = true := by
  unfold domOf; rw [List.mem_filter, List.mem_range]

section
variable {F : FC} {c : Cx} {h₀ : Heap} {m : Loc} {H : AHeap} {s : Shared}
/-- the ground of a call: all that stands but our own objects -/
theorem St.ground (x : St F c h₀ m H s) :
    let g := hideAll s.heap (domOf H s.heap.objs.size)
    h₀.StaysIn g ∧ (∀ b o, g.get? b = some o → s.heap.get? b = some o) ∧ (∀ b o, s.heap.get? b = some o → H b = none → g.get? b = some o) ∧ (∀ b o, H b = some o → g.get? b = none) := by
  intro g
  have k3 : ∀ b o, s.heap.get? b = some o → H b = none → g.get? b = some o := fun b o e hb => hideAll_get _ e fun q => by
    have := (mem_domOf.mp q).2; rw [hb] at this; cases this
  refine ⟨fun b o e => k3 b o (x.keep b o e) ?_, fun b o e => of_hideAll _ e, k3, fun b o e => hideAll_none _ ?_⟩
  · cases q : H b with
    | none => rfl
    | some o' => have := (x.heap b o' q).2.2; rw [e] at this; cases this
  · obtain ⟨⟨ob, g, _⟩, _⟩ := x.heap b o e
    exact mem_domOf.mpr ⟨Heap.lt_size g, by rw [e]; rfl⟩
/-- back from a call -/
theorem St.back {F' : FC} {c' : Cx} {m' : Loc} {H' : AHeap} {s' : Shared} (x : St F c h₀ m H s)
    (y : St F' c' (hideAll s.heap (domOf H s.heap.objs.size)) m' H' s') (hos : c'.os = c.os) : St F c h₀ m H' s' := by
  obtain ⟨g1, g2, g3, g4⟩ := x.ground
  have hL : ∃ mm, (hideAll s.heap (domOf H s.heap.objs.size)).Ns c.env.locals mm ∧ ∀ z v, (z, some v) ∈ m → ∃ u, mm z = some u ∧ v.Is u := by
    obtain ⟨mm, ⟨o, es, ep, ho, r⟩, hm⟩ := x.ns
    refine ⟨mm, ⟨o, es, ep, g3 _ _ ho ?_, r⟩, hm⟩
    cases q : H c.env.locals with
    | none => rfl
    | some o' => exact absurd rfl (x.heap _ o' q).2.1
  obtain ⟨mm, hn, hm⟩ := hL
  refine ⟨x.ok, x.sta, ⟨mm, hn.keeps y.keep, hm⟩, x.loc, x.nd, fun b o e => y.keep b o (g1 b o e), x.newL, fun a o e => ?_, y.gens, y.os.trans hos, x.gp⟩
  obtain ⟨i, _, n0⟩ := y.heap a o e
  refine ⟨i, fun q => ?_, ?_⟩
  · obtain ⟨oL, _, _, hL, _⟩ := hn
    rw [q, hL] at n0; cases n0
  · cases q : h₀.get? a with
    | none => rfl
    | some o' => rw [g1 a o' q] at n0; cases n0
end

theorem lookup_zip_reverse : ∀ {ps : List Str} {as : List AV} {vs : List Value}, ps.Nodup → IsAll as vs → ∀ x v, (x, some v) ∈ zipL ps as → ∃ u, (ps.zip vs).reverse.lookup x = some u ∧ v.Is u := by
  intro ps as vs nd hi x v hm
  have key : ∀ {ps : List Str} {as : List AV} {vs : List Value}, IsAll as vs → (x, some v) ∈ zipL ps as → ∃ u, (x, u) ∈ ps.zip vs ∧ v.Is u := by
    intro ps
    induction ps with
    | nil => intro as vs _ hm; simp [zipL] at hm
    | cons p ps ih =>
      intro as vs hi hm
      cases as with
      | nil => simp [zipL] at hm
      | cons a as =>
        obtain ⟨w, r, rfl, h1, h2⟩ := hi.cons_inv
        rcases List.mem_cons.mp hm with e | hm
        · injection e with e1 e2; injection e2 with e2; subst e1 e2
          exact ⟨w, by simp, h1⟩
        · obtain ⟨u, hu, hv⟩ := ih h2 hm
          exact ⟨u, by simp [hu], hv⟩
  obtain ⟨u, hu, hv⟩ := key hi hm
  refine ⟨u, ?_, hv⟩
  have ndz : ((ps.zip vs).reverse.map (·.1)).Nodup := by
    rw [List.map_reverse]
    refine (List.reverse_perm _).nodup_iff.mpr ?_
    have : ((ps.zip vs).map (·.1)).Sublist ps := by
      clear hu hm hi nd key
      induction ps generalizing vs with
      | nil => simp
      | cons p ps ih => cases vs with
        | nil => simp
        | cons v vs => simpa using ih
    exact this.nodup nd
  have hu' : (x, u) ∈ (ps.zip vs).reverse := List.mem_reverse.mpr hu
  revert hu' ndz
  generalize (ps.zip vs).reverse = l
  intro nd hm
  induction l with
  | nil => cases hm
  | cons p l ih =>
    obtain ⟨y, w⟩ := p
    rcases List.mem_cons.mp hm with e | hm
    · injection e with e1 e2; subst e1 e2; simp [List.lookup]
    · have hne : x ≠ y := fun q => (List.nodup_cons.mp nd).1 (List.mem_map.mpr ⟨(x, u), hm, q⟩)
      rw [List.lookup_cons, beq_false_of_ne hne]
      exact ih (List.nodup_cons.mp nd).2 hm

/-- what a def hands back -/
def retQ (Q : AV → AHeap → Prop) : AFlow → Loc → AHeap → Prop
  | .ret v, _, H => ∃ H', H'.Sub H ∧ Q v H'
  | _, _, H => ∃ H', H'.Sub H ∧ Q .none H'

def flowV : Flow → Value
  | .ret v => v
  | _ => .none
/-- how a def of ours ends -/
inductive Ended (F : FC) (w : World) (g : Heap) (os : OsState) (Q : AFlow → Loc → AHeap → Prop) (v : Value) (s' : Shared) : Prop
  | mk (c : Cx) (f : Flow) (x : PF F c g Q f s') (o : c.os = os) (e : v = flowV f)
/-- a def is called, from wherever -/
theorem enterD {F' : FC} {w : World} {A : Around} {s : Shared} {g : Heap} {H : AHeap} {a : Addr} {ps ls : List Str} {body : List Stmt} {as : List AV} {vs : List Value} {P : Heap → Prop} {Q : AFlow → Loc → AHeap → Prop} {Xc : Cx → XP} {E : Value → Shared → Prop} (fn : Fn F' a ps body w.params) (hi : IsAll as vs)
    (hlen : ps.length = as.length) (hloc : ∀ x ∈ ps ++ ls, F'.scope.names.lookup x = some .local ∧ (x == ("__debug__" : Str)) = false) (hnd : (ps ++ ls).Nodup) (hcell : ∀ x ∈ F'.scope.names, x.2 ≠ .cell)
    (KI : (F'.K w.params).In s.heap) (hnl : s.heap.NoLimit) (g2 : ∀ d o, g.get? d = some o → s.heap.get? d = some o) (gK : (F'.K w.params).In g) (gT : ∃ p l mg mb, TopRead p l mg mb g)
    (hH : ∀ d o, H d = some o → (∃ ob, s.heap.get? d = some ob ∧ o.Is ob) ∧ g.get? d = none) (hgens : s.gens = #[]) (hh : A.handled = none) (hdep : A.depth + 1 + F'.ht < recursionLimit) (hun : A.units + 3 + 8 * F'.ht + 80 < cLine)
    (mono : ∀ h h' : Heap, h.StaysIn h' → P h → P h') (gp : P g)
    (hE : ∀ c' : Cx, c'.w = w → c'.A = A.deeper c'.env → c'.os = s.os → ∀ v s', Xc c' g v s' → wpC (model F'.prog w) c'.A (leaving c'.env v) (fun _ s'' => E v s'') E s')
    (h : ∀ c' : Cx, c'.w = w → c'.A = A.deeper c'.env → c'.env.frame = some c'.env.locals → c'.os = s.os → c'.P = P → WSs F' c' body Q (Xc c') (zipL ps as ++ ls.map fun x => (x, none)) H) :
    wpC (model F'.prog w) A (call (.ref a) vs) (Ended F' w g s.os Q) E s := by
  obtain ⟨o, fd, hl, hd, e1, e2, e3, e4, e5, e6, e7⟩ := fn.obj
  have hvl : vs.length = ps.length := hi.length.trans hlen.symm
  refine wpC_call (codeC_call_def (binds := ps.zip vs) (body := body) (Nat.lt_of_le_of_lt (Nat.le_trans (Nat.le_add_right _ _) (Nat.le_add_right _ _)) hdep) (KI _ _ hl) hd hnl (codeRec_of KI e6) e5 (.of_eq (e7 vs hvl)) (by rw [e1]; exact fn.cor) (by rw [e1]; exact fn.gen) ?_)
  have hkz : ∀ y ∈ ps.zip vs, fd.scope.names.lookup y.1 = some .local := fun y hy => by
    rw [e1]; exact (hloc y.1 (List.mem_append_left _ (List.of_mem_zip hy).1)).1
  refine wpAny_newFunctionEnv (by rw [e1]; exact hcell) hkz (fun h' hns sb => ?_) (by rw [e1]; exact fn.kind)
  have kk : ∀ b ob, s.heap.get? b = some ob → h'.get? b = some ob := fun b ob e => sb.extBut b ob (Nat.ne_of_lt (Heap.lt_size e)) (Heap.get?_push_of_some _ e)
  refine ⟨hnl.keeps kk, codeC_func ?_⟩
  let env' := newEnv fd.scope s.heap.objs.size fd.globals fd.closure (fd.qualname ++ ".<locals>.") (some a) fd.code none fd.builtins
  let c' : Cx := { w := w, A := A.deeper env', env := env', os := s.os, P := P }
  have ek : (zipL ps as ++ ls.map fun x => ((x, none) : Str × Option AV)).map (fun y : Str × Option AV => y.1) = ps ++ ls := by
    rw [List.map_append, zipL_keys hlen, List.map_map, show ((fun x : Str × Option AV => x.1) ∘ fun x : Str => (x, none)) = id from rfl, List.map_id]
  have y : St F' c' g (zipL ps as ++ ls.map fun x => (x, none)) H { s with heap := h', toks := s.toks + (ps.zip vs).length } := by
    refine ⟨⟨fn.kind, e1, e2, e3, hh, hdep, hun, mono⟩, ⟨gK, gT⟩, ⟨_, hns, fun z v hz => ?_⟩, fun z hz => hloc z (by rw [← ek]; exact hz), by rw [ek]; exact hnd, fun b ob e => kk b ob (g2 b ob e), ?_, fun b ob e => ?_, hgens, rfl, gp⟩
    · rcases List.mem_append.mp hz with hz | hz
      · exact lookup_zip_reverse (List.nodup_append.mp hnd).1 hi z v hz
      · obtain ⟨w, _, e⟩ := List.mem_map.mp hz; injection e with _ e; cases e
    · show g.get? s.heap.objs.size = none
      cases q : g.get? s.heap.objs.size with
      | none => rfl
      | some ob => exact absurd (Heap.lt_size (g2 _ _ q)) (Nat.lt_irrefl _)
    · obtain ⟨⟨ob', q, i⟩, n⟩ := hH b ob e
      exact ⟨⟨ob', kk _ _ q, i⟩, Nat.ne_of_lt (Heap.lt_size q), n⟩
  exact wpC_mono ((h c' rfl rfl rfl rfl rfl).run _ _ y) (fun f s' z => ⟨c', f, z, rfl, by cases f <;> rfl⟩) fun v s' z => hE c' rfl rfl rfl v s' z
theorem WCall_def {F F' : FC} {c : Cx} {X : XP} {m : Loc} {H : AHeap} {a : Addr} {ps ls : List Str} {body : List Stmt} {as : List AV} {Q : AV → AHeap → Prop} (fn : Fn F' a ps body c.w.params) (hK : F'.K = F.K) (hp : F'.prog = F.prog) (ht : F'.ht < F.ht)
    (hlen : ps.length = as.length) (hloc : ∀ x ∈ ps ++ ls, F'.scope.names.lookup x = some .local ∧ (x == ("__debug__" : Str)) = false) (hnd : (ps ++ ls).Nodup) (hcell : ∀ x ∈ F'.scope.names, x.2 ≠ .cell)
    (h : ∀ c' : Cx, c'.w = c.w → WSs F' c' body (retQ Q) noX (zipL ps as ++ ls.map fun x => (x, none)) H) : WCall F c (.ref a) as Q X m H := by
  intro vf vs hf hi
  refine .mk fun h₀ s x => ?_
  obtain rfl : vf = .ref a := hf
  obtain ⟨g1, g2, g3, g4⟩ := x.ground
  have hdep := x.ok.depth
  have hun := x.ok.units
  rw [← hp]
  refine wpC_mono (enterD (P := fun _ => True) (Q := retQ Q) (Xc := fun _ => noX) (E := X h₀) fn hi hlen hloc hnd hcell (hK ▸ x.sta.K.keeps x.keep) (let ⟨_, _, _, _, T⟩ := x.sta.top; T.nolimit.keeps x.keep) g2 (hK ▸ x.sta.K.keeps g1) (let ⟨p, l, mg, mb, T⟩ := x.sta.top; ⟨p, l, mg, mb, T.keeps g1⟩) (fun d o e => ⟨(x.heap d o e).1, g4 d o e⟩) x.gens x.ok.hh (by lia) (by lia)
    (fun _ _ _ q => q) trivial (fun _ _ _ _ _ _ z => z.elim) fun c' hw _ _ _ _ => h c' hw) (fun r s' ⟨c', f, ⟨af, m', H', z, i, q⟩, ho, e⟩ => ?_) fun _ _ z => z
  subst e
  have zz := x.back z (ho.trans x.os)
  cases af with
  | next => cases i; obtain ⟨H2, k, q⟩ := q; exact ⟨.none, H2, zz.weak k, rfl, q⟩
  | brk => cases i; obtain ⟨H2, k, q⟩ := q; exact ⟨.none, H2, zz.weak k, rfl, q⟩
  | cont => cases i; obtain ⟨H2, k, q⟩ := q; exact ⟨.none, H2, zz.weak k, rfl, q⟩
  | ret v => obtain ⟨u, rfl, i⟩ := i; obtain ⟨H2, k, q⟩ := q; exact ⟨v, H2, zz.weak k, i, q⟩
end Mine
end
section
open PySem PySem.W PyProof.Rows
set_option Elab.async false
set_option linter.unusedVariables false
namespace Mine
section
variable {F : FC} {c : Cx} {X : XP} {m : Loc} {H : AHeap} {a b : Int} {Q : AV → AHeap → Prop}
/-- a leaf that keeps the heap and hands back one value -/
theorem leaf0 {t : Sem Value} {av : AV} (hq : Q av H)
    (h : ∀ (s : Shared) (Q' : Value → Shared → Prop) (E : Value → Shared → Prop), s.gens = #[] → c.A.handled = none → (∀ v k, av.Is v → Q' v { s with toks := k }) → wpAny (model F.prog c.w) c.A t Q' E s) : WV F c t Q X m H :=
  .mk fun h₀ s x => wpC_any (h s _ _ x.gens x.ok.hh fun v k i => ⟨av, H, x.toks k, i, hq⟩)
theorem op_add (h : Q (.int (a + b)) H) : WOp F c .Add (.int a) (.int b) Q X m H := by
  rintro _ _ ⟨t, rfl⟩ ⟨u, rfl⟩
  refine leaf0 h ?_
  intro s Q' E _ _ k
  with_reducible refine P.add_int ?_
  exact k _ _ ⟨_, rfl⟩
theorem iop_add (h : Q (.int (a + b)) H) : WIop F c .Add (.int a) (.int b) Q X m H := by
  rintro _ _ ⟨t, rfl⟩ ⟨u, rfl⟩
  refine leaf0 h ?_
  intro s Q' E _ _ k
  with_reducible refine P.iadd_int ?_
  exact k _ _ ⟨_, rfl⟩
theorem op_sub (h : Q (.int (a - b)) H) : WOp F c .Sub (.int a) (.int b) Q X m H := by
  rintro _ _ ⟨t, rfl⟩ ⟨u, rfl⟩
  refine leaf0 h ?_
  intro s Q' E _ _ k
  with_reducible refine P.sub_int ?_
  exact k _ _ ⟨_, rfl⟩
theorem op_mul (hs : Builtin.Int.intBits a ≤ 64 ∨ Builtin.Int.intBits b ≤ 64) (h : Q (.int (a * b)) H) : WOp F c .Mult (.int a) (.int b) Q X m H := by
  rintro _ _ ⟨t, rfl⟩ ⟨u, rfl⟩
  refine leaf0 h ?_
  intro s Q' E _ _ k
  with_reducible refine P.mul_int ?_ ?_
  · exact k _ _ ⟨_, rfl⟩
  · exact hs.elim IntMulOk.of_left IntMulOk.of_right
theorem op_mod (hb : 0 < b) (h : Q (.int (a % b)) H) : WOp F c .Mod (.int a) (.int b) Q X m H := by
  rintro _ _ ⟨t, rfl⟩ ⟨u, rfl⟩
  refine leaf0 h ?_
  intro s Q' E _ _ k
  have h0 : b ≠ 0 := by omega
  with_reducible refine mod_int' h0 ?_
  rw [Int.fmod_eq_emod_of_nonneg _ (by omega)]
  exact k _ _ ⟨_, rfl⟩
theorem op_div (hb : 0 < b) (hs : b < 1073741824) (h : Q (.int (a / b)) H) : WOp F c .FloorDiv (.int a) (.int b) Q X m H := by
  rintro _ _ ⟨t, rfl⟩ ⟨u, rfl⟩
  refine leaf0 h ?_
  intro s Q' E _ _ k
  have h0 : b ≠ 0 := by omega
  have h1 := PyProof.noPylong_small (x := a) (y := b) (by omega)
  with_reducible refine floordiv_int h0 ?_ (.inl h1)
  rw [Int.fdiv_eq_ediv_of_nonneg _ (by omega)]
  exact k _ _ ⟨_, rfl⟩
theorem op_pow {n : Int} (hn : 0 ≤ n) (hs : Builtin.Int.intBits a * n ≤ 2 ^ 27) (h : Q (.int (a ^ n.toNat)) H) : WOp F c .Pow (.int a) (.int n) Q X m H := by
  rintro _ _ ⟨t, rfl⟩ ⟨u, rfl⟩
  refine leaf0 h ?_
  intro s Q' E _ _ k
  with_reducible refine pow_int hn hs ?_
  exact k _ _ ⟨_, rfl⟩
theorem op_shl {n : Int} (hn : 0 ≤ n) (hs : (Builtin.Int.intBits a : Int) + n ≤ 2 ^ 27) (h : Q (.int (a * 2 ^ n.toNat)) H) : WOp F c .LShift (.int a) (.int n) Q X m H := by
  rintro _ _ ⟨t, rfl⟩ ⟨u, rfl⟩
  refine leaf0 h ?_
  intro s Q' E _ _ k
  with_reducible refine lshift_int hn hs ?_
  exact k _ _ ⟨_, rfl⟩
theorem op_shr {n : Int} (hn : 0 ≤ n) (h : Q (.int (a / 2 ^ n.toNat)) H) : WOp F c .RShift (.int a) (.int n) Q X m H := by
  rintro _ _ ⟨t, rfl⟩ ⟨u, rfl⟩
  refine leaf0 h ?_
  intro s Q' E _ _ k
  with_reducible refine rshift_int hn ?_
  rw [Int.fdiv_eq_ediv_of_nonneg _ (Int.le_of_lt (Int.pow_pos (by decide)))]
  exact k _ _ ⟨_, rfl⟩
theorem iop_shr {n : Int} (hn : 0 ≤ n) (h : Q (.int (a / 2 ^ n.toNat)) H) : WIop F c .RShift (.int a) (.int n) Q X m H := by
  rintro _ _ ⟨t, rfl⟩ ⟨u, rfl⟩
  refine leaf0 h ?_
  intro s Q' E _ _ k
  with_reducible refine irshift_int hn ?_
  rw [Int.fdiv_eq_ediv_of_nonneg _ (Int.le_of_lt (Int.pow_pos (by decide)))]
  exact k _ _ ⟨_, rfl⟩
theorem op_and (h : Q (.int (Builtin.bitAnd a b)) H) : WOp F c .BitAnd (.int a) (.int b) Q X m H := by
  rintro _ _ ⟨t, rfl⟩ ⟨u, rfl⟩
  refine leaf0 h ?_
  intro s Q' E _ _ k
  with_reducible refine and_int ?_
  exact k _ _ ⟨_, rfl⟩
theorem op_or (h : Q (.int (Builtin.bitOr a b)) H) : WOp F c .BitOr (.int a) (.int b) Q X m H := by
  rintro _ _ ⟨t, rfl⟩ ⟨u, rfl⟩
  refine leaf0 h ?_
  intro s Q' E _ _ k
  with_reducible refine or_int ?_
  exact k _ _ ⟨_, rfl⟩
theorem un_neg (h : Q (.int (-a)) H) : WUn F c .USub (.int a) Q X m H := by
  rintro _ ⟨t, rfl⟩
  refine leaf0 h ?_
  intro s Q' E _ _ k
  with_reducible refine P.neg_int ?_
  exact k _ _ ⟨_, rfl⟩
theorem cmp_leaf {op : CmpOp} {x y : AV} {r : Bool} {Q : Bool → AHeap → Prop} (hq : Q r H)
    (h : ∀ vx vy, x.Is vx → y.Is vy → ∀ (s : Shared) (Q' : Value → Shared → Prop) (E : Value → Shared → Prop), (∀ k, Q' (.bool r) { s with toks := k }) → wpAny (model F.prog c.w) c.A (compareOp op vx vy) Q' E s) : WCmp F c op x y Q X m H :=
  fun vx vy ix iy => leaf0 (av := .bool r) ⟨r, rfl, hq⟩ fun s Q' E _ _ k => h vx vy ix iy s Q' E fun j => k _ j rfl
section
variable {Q : Bool → AHeap → Prop}
theorem cmp_lt (h : Q (decide (a < b)) H) : WCmp F c .Lt (.int a) (.int b) Q X m H :=
  cmp_leaf h (by rintro _ _ ⟨t, rfl⟩ ⟨u, rfl⟩ s Q' E k; with_reducible refine P.lt_int ?_; exact k _)
theorem cmp_le (h : Q (decide (a ≤ b)) H) : WCmp F c .LtE (.int a) (.int b) Q X m H :=
  cmp_leaf h (by rintro _ _ ⟨t, rfl⟩ ⟨u, rfl⟩ s Q' E k; with_reducible refine P.le_int ?_; exact k _)
theorem cmp_gt (h : Q (decide (a > b)) H) : WCmp F c .Gt (.int a) (.int b) Q X m H :=
  cmp_leaf h (by rintro _ _ ⟨t, rfl⟩ ⟨u, rfl⟩ s Q' E k; with_reducible refine P.gt_int ?_; exact k _)
theorem cmp_ge (h : Q (decide (a ≥ b)) H) : WCmp F c .GtE (.int a) (.int b) Q X m H :=
  cmp_leaf h (by rintro _ _ ⟨t, rfl⟩ ⟨u, rfl⟩ s Q' E k; with_reducible refine P.ge_int ?_; exact k _)
theorem cmp_eq (h : Q (a == b) H) : WCmp F c .Eq (.int a) (.int b) Q X m H :=
  cmp_leaf h (by rintro _ _ ⟨t, rfl⟩ ⟨u, rfl⟩ s Q' E k; with_reducible refine P.eq_int ?_; exact k _)
theorem cmp_ne (h : Q (a != b) H) : WCmp F c .NotEq (.int a) (.int b) Q X m H :=
  cmp_leaf h (by rintro _ _ ⟨t, rfl⟩ ⟨u, rfl⟩ s Q' E k; with_reducible refine P.ne_int ?_; exact k _)
theorem cmp_eq_str {x y : Str} (h : Q (x.cps.toList == y.cps.toList) H) : WCmp F c .Eq (.str x) (.str y) Q X m H :=
  cmp_leaf h (by rintro _ _ ⟨t, rfl⟩ ⟨u, rfl⟩ s Q' E k; with_reducible refine P.eq_str ?_; exact k _)
end
theorem br {p : Prop} [Decidable p] {A B : Prop} (h1 : p → A) (h2 : ¬ p → B) : if decide p = true then A else B := by
  by_cases q : p
  · rw [if_pos (decide_eq_true q)]; exact h1 q
  · rw [if_neg (by simpa using q)]; exact h2 q
end
end Mine
end
section
open PySem PySem.W PyProof.Rows
set_option Elab.async false
set_option linter.unusedVariables false
namespace Mine
abbrev bigLine : Nat := 16777216
theorem bigLine_eq : bigLine = sizeLine := by decide +kernel
theorem AObj.list_isList {xs : List AV} {h : Heap} {a : Addr} {ob : Obj} (e : h.get? a = some ob) (i : (AObj.list xs).Is ob) : ∃ vs : List Value, IsAll xs vs ∧ h.PlainList a vs.toArray ∧ ∃ n, ob = { cls := .type "list", data := .seq vs.toArray n } := by
  obtain ⟨vs, n, rfl, k⟩ := i
  refine ⟨vs.toList, k, ?_, n, ?_⟩
  · rw [Array.toArray_toList]; exact ⟨n, e⟩
  · rw [Array.toArray_toList]
section
variable {F : FC} {c : Cx} {X : XP} {m : Loc} {H : AHeap}
/-- a leaf that keeps what stands and makes a new object -/
theorem leafN {t : Sem Value} {Q : AV → AHeap → Prop} {o : AObj} (hq : ∀ a, H a = none → Q (.ref a) (H.set a o))
    (h : ∀ (s : Shared) (Q' : Value → Shared → Prop) (E : Value → Shared → Prop), s.gens = #[] → c.A.handled = none →
      (∀ a ob h' k, (∀ b p, s.heap.get? b = some p → h'.get? b = some p) → s.heap.get? a = none → h'.get? a = some ob → o.Is ob → Q' (.ref a) { s with heap := h', toks := k }) → wpAny (model F.prog c.w) c.A t Q' E s) : WV F c t Q X m H :=
  .mk fun h₀ s x => wpC_any (h s _ _ x.gens x.ok.hh fun a ob h' k kk hn hg i => by
    obtain ⟨y, n⟩ := x.add (t := k) kk hn hg i
    exact ⟨.ref a, _, y, rfl, hq a n⟩)
theorem WE_List {elts : List Expr} {pos : Pos} {Q : AV → AHeap → Prop} (h : WSpl F c pos elts (fun as H => as.length ≤ bigLine ∧ ∀ a, H a = none → Q (.ref a) (H.set a (.list as))) X m H) : WE F c (.List elts pos) Q X m H := .mk fun h₀ s x => by
  rw [arm_eval_List]
  refine wpC_at (wpC_then (h.run h₀ s x) fun vs s1 ⟨as, H1, x1, i1, hl, q1⟩ => wpC_any ?_)
  unfold newList
  rw [bigLine_eq] at hl
  with_reducible refine wpAny_newObj_type ?_ ?_
  · obtain ⟨y, n⟩ := x1.new (o := .list as) (ob := { cls := .type "list", data := .seq vs.toArray }) ⟨vs.toArray, _, rfl, by simpa using i1⟩ rfl
    exact ⟨.ref _, _, y, rfl, q1 _ n⟩
  · show vs.toArray.size ≤ sizeLine
    rw [List.size_toArray, i1.length]; exact hl
theorem WE_Tuple {elts : List Expr} {k : Nat} {pos : Pos} {Q : AV → AHeap → Prop} (h : WSpl F c pos elts (fun as H => as.length ≤ bigLine ∧ ∀ a, H a = none → Q (.ref a) (H.set a (.tuple as))) X m H) : WE F c (.Tuple elts k pos) Q X m H := .mk fun h₀ s x => by
  rw [arm_eval_Tuple]
  refine wpC_at (wpC_then (h.run h₀ s x) fun vs s1 ⟨as, H1, x1, i1, hl, q1⟩ => wpC_any ?_)
  unfold newTuple
  rw [bigLine_eq] at hl
  with_reducible refine wpAny_newObj_type ?_ ?_
  · obtain ⟨y, n⟩ := x1.new (o := .tuple as) (ob := { cls := .type "tuple", data := .seq vs.toArray }) ⟨rfl, vs.toArray, _, rfl, by simpa using i1⟩ rfl
    exact ⟨.ref _, _, y, rfl, q1 _ n⟩
  · show vs.toArray.size ≤ sizeLine
    rw [List.size_toArray, i1.length]; exact hl
theorem St.list {h₀ : Heap} {s : Shared} (x : St F c h₀ m H s) {a : Addr} {xs : List AV} (e : H a = some (.list xs)) : ∃ vs : List Value, IsAll xs vs ∧ s.heap.PlainList a vs.toArray := by
  obtain ⟨⟨ob, g, i⟩, _⟩ := x.heap a _ e
  obtain ⟨vs, k, p, _⟩ := AObj.list_isList g i
  exact ⟨vs, k, p⟩
theorem St.tup {h₀ : Heap} {s : Shared} (x : St F c h₀ m H s) {a : Addr} {xs : List AV} (e : H a = some (.tuple xs)) : ∃ vs : List Value, IsAll xs vs ∧ IsTup s.heap a vs.toArray := by
  obtain ⟨⟨ob, g, hc, vs, n, hd, k⟩, _⟩ := x.heap a _ e
  exact ⟨vs.toList, k, ob, g, hc, n, by rw [Array.toArray_toList]; exact hd⟩
theorem St.scr {h₀ : Heap} {s : Shared} (x : St F c h₀ m H s) {a : Addr} {ob : Obj} {ns : List Int} (e : H a = some (.script ob ns)) : ∃ vs : List Value, IntsAre vs ns ∧ s.heap.IsList a vs.toArray := by
  obtain ⟨⟨ob, g, rfl, hc, vs, n, hd, k⟩, _⟩ := x.heap a _ e
  exact ⟨vs.toList, k, ob, g, hc, n, by rw [Array.toArray_toList]; exact hd⟩

theorem meth_append {a : Addr} {xs : List AV} (e : H a = some (.list xs)) : Meth F c (Str.ofString "append") (.ref a) "list.append" m H := fun h₀ s v x i pl Q E q => by
  obtain rfl : v = .ref a := i
  obtain ⟨vs, _, n, p⟩ := x.list e
  exact PySem.Calls.getMethod_list_append p rfl rfl q
theorem call_append {a : Addr} {xs : List AV} {v : AV} {Q : AV → AHeap → Prop} (e : H a = some (.list xs)) (hl : xs.length ≤ bigLine) (h : Q .none (H.set a (.list (xs ++ [v])))) : WCall F c (.builtin "list.append") [.ref a, v] Q X m H := fun vf vs hf hi => .mk fun h₀ s x => by
  obtain rfl : vf = .builtin "list.append" := hf
  obtain ⟨_, r, rfl, h1, h2⟩ := hi.cons_inv
  obtain ⟨w, r, rfl, h3, h4⟩ := h2.cons_inv
  obtain rfl := h4.nil_inv
  obtain rfl := (show _ = Value.ref a from h1)
  obtain ⟨us, k, p⟩ := x.list e
  rw [bigLine_eq] at hl
  refine wpC_any ?_
  with_reducible refine wpAny_list_append_plain p ?_ ?_
  · intro h' p' sb
    obtain ⟨n, g⟩ := p'
    refine ⟨.none, _, x.upd (o' := .list (xs ++ [v])) (t := s.toks) e sb g ⟨_, n, rfl, ?_⟩, rfl, h⟩
    rw [Array.toList_push]
    exact k.append ⟨h3, trivial⟩
  · rw [List.size_toArray, k.length]; exact hl
theorem list_reverse_any {prog : Program} {w : World} {A : Around} {E : Value → Shared → Prop} {s : Shared} {a : Addr} {vs : Array Value} {Q : Value → Shared → Prop} (p : s.heap.PlainList a vs) (hl : vs.size ≤ sizeLine) (h : ∀ h', h'.PlainList a vs.reverse → Heap.SameBut a s.heap h' → Q .none { s with heap := h' }) :
    wpAny (model prog w) A (call (.builtin "list.reverse") [.ref a]) Q E s := by
  obtain ⟨n, g⟩ := p
  have hT : s.TypeIs (.ref a) "list" := ⟨_, g, rfl⟩
  refine call_meets PySem.F.slot_list_reverse hT PySem.F.entry_list_reverse (PySem.F.args_list_reverse_1 _) (AutoListH.list_reverse_list_0 a vs n hl) ⟨g, h _ ⟨(Obj.mapSeq (·.reverse) { cls := .type "list", data := .seq vs n } |> fun o => match o.data with | .seq _ k => k | _ => 0), ?_⟩ (Heap.SameBut.update ..)⟩
  refine (Heap.get?_update_self _ g ?_).trans ?_
  · simp [Obj.mapSeq, Obj.isFreed]
  · simp [Obj.mapSeq]
theorem call_reverse {a : Addr} {xs : List AV} {Q : AV → AHeap → Prop} (e : H a = some (.list xs)) (hl : xs.length ≤ bigLine) (h : Q .none (H.set a (.list xs.reverse))) : WCall F c (.builtin "list.reverse") [.ref a] Q X m H := fun vf vs hf hi => .mk fun h₀ s x => by
  obtain rfl : vf = .builtin "list.reverse" := hf
  obtain ⟨_, r, rfl, h1, h2⟩ := hi.cons_inv
  obtain rfl := h2.nil_inv
  obtain rfl := (show _ = Value.ref a from h1)
  obtain ⟨us, k, p⟩ := x.list e
  rw [bigLine_eq] at hl
  refine wpC_any (list_reverse_any p (by rw [List.size_toArray, k.length]; exact hl) fun h' p' sb => ?_)
  obtain ⟨n, g⟩ := p'
  refine ⟨.none, _, x.upd (o' := .list xs.reverse) (t := s.toks) e sb g ⟨_, n, rfl, ?_⟩, rfl, h⟩
  simpa using k.reverse
theorem meth_reverse {a : Addr} {xs : List AV} (e : H a = some (.list xs)) : Meth F c (Str.ofString "reverse") (.ref a) "list.reverse" m H := fun h₀ s v x i pl Q E q => by
  obtain rfl : v = .ref a := i
  obtain ⟨vs, _, n, p⟩ := x.list e
  refine getMethod_list_of PySem.F.slot_list_reverse PySem.F.type_list_reverse (Heap.PlainList.isList ⟨n, p⟩) ?_ q
  exact ⟨_, p, rfl⟩
end
end Mine
end
section
open PySem PySem.W PyProof.Rows
set_option Elab.async false
set_option linter.unusedVariables false
set_option maxRecDepth 100000
namespace Mine
abbrev plainSlice (slice : Expr) : Prop := ∀ o i, subscripted slice false o i = operate [o, i] (getItem o i)
theorem IsAll.toArrGet {xs : List AV} {vs : List Value} {i : Nat} {v : AV} (h : IsAll xs vs) (e : xs[i]? = some v) : ∃ u, vs.toArray[i]? = some u ∧ v.Is u := by
  obtain ⟨u, e', k⟩ := h.get e
  exact ⟨u, by simpa using e', k⟩
theorem seqIndex_of {i n : Nat} (h : i < n) : seqIndex? (i : Int) n = some i := by
  have hn : ¬ ((i : Int) < 0) := by lia
  have h1 : (i : Int) < n := by lia
  simp [seqIndex?, hn, h]
section
variable {F : FC} {c : Cx} {X : XP} {m : Loc} {H : AHeap} {value slice : Expr} {a b : Addr} {xs ys : List AV} {v : AV} {i : Nat} {Q : AV → AHeap → Prop}
theorem sub_list (e : H a = some (.list xs)) (hx : xs[i]? = some v) (hf : i ≤ bigLine) (h : Q v H) (hs : plainSlice slice := by intro _ _; rfl) : WSub F c value slice (.ref a) (.int i) Q X m H := by
  rintro _ _ rfl ⟨t, rfl⟩
  refine .mk fun h₀ s x => wpC_any ?_
  obtain ⟨vs, k, p⟩ := x.list e
  obtain ⟨u, e', ku⟩ := k.toArrGet hx
  refine tail_any p.isList.typeIs slot_list_getitem.lookup ?_ (hs _ _)
  refine wpAny_getItem_list p.isList (by lia) ?_ (by simpa using e') ⟨v, H, x, ku, h⟩
  unfold bigLine at hf; lia
theorem sub_tup (e : H a = some (.tuple xs)) (hx : xs[i]? = some v) (hf : i ≤ bigLine) (h : Q v H) (hs : plainSlice slice := by intro _ _; rfl) : WSub F c value slice (.ref a) (.int i) Q X m H := by
  rintro _ _ rfl ⟨t, rfl⟩
  refine .mk fun h₀ s x => wpC_any ?_
  obtain ⟨vs, k, p⟩ := x.tup e
  obtain ⟨u, e', ku⟩ := k.toArrGet hx
  have hlt : i < vs.toArray.size := by
    obtain ⟨q, _⟩ := Array.getElem?_eq_some_iff.mp e'; exact q
  refine tail_any p.typeIs slot_tuple_getitem.lookup ?_ (hs _ _)
  unfold bigLine at hf
  exact getItem_tuple p (by lia) (by lia) (seqIndex_of hlt) e' ⟨v, H, x, ku, h⟩
theorem sub_script {ob : Obj} {ns : List Int} {n : Int} (e : H a = some (.script ob ns)) (hx : ns[i]? = some n) (hf : i ≤ bigLine) (h : Q (.int n) H) (hs : plainSlice slice := by intro _ _; rfl) : WSub F c value slice (.ref a) (.int i) Q X m H := by
  rintro _ _ rfl ⟨t, rfl⟩
  refine .mk fun h₀ s x => wpC_any ?_
  obtain ⟨vs, k, p⟩ := x.scr e
  have hlt : i < vs.length := by
    obtain ⟨q, _⟩ := List.getElem?_eq_some_iff.mp hx; rw [k.length]; exact q
  obtain ⟨n', t', e1, e2⟩ := IntsAre.at k i vs[i] (List.getElem?_eq_getElem hlt)
  obtain rfl : n = n' := by rw [hx] at e2; cases e2; rfl
  refine tail_any p.typeIs slot_list_getitem.lookup ?_ (hs _ _)
  unfold bigLine at hf
  refine wpAny_getItem_list (x := vs[i]) p (by lia) (by lia) (by simp [hlt]) ⟨.int n, H, x, ⟨t', e1⟩, h⟩
/-- a tuple of the text -/
theorem sub_ktup {o : Obj} {us : Array Value} {k : Nat} {u : Value} (hl : (F.K c.w.params).lookup a = some o) (hc : o.cls = .type "tuple") (hd : o.data = .seq us k) (hx : us[i]? = some u) (hv : v.Is u) (hf : i ≤ bigLine) (h : Q v H) (hs : plainSlice slice := by intro _ _; rfl) : WSub F c value slice (.ref a) (.int i) Q X m H := by
  rintro _ _ rfl ⟨t, rfl⟩
  refine .mk fun h₀ s x => wpC_any ?_
  have p : IsTup s.heap a us := ⟨o, x.keep _ _ (x.sta.K _ _ hl), hc, k, hd⟩
  have hlt : i < us.size := by
    obtain ⟨q, _⟩ := Array.getElem?_eq_some_iff.mp hx; exact q
  refine tail_any p.typeIs slot_tuple_getitem.lookup ?_ (hs _ _)
  unfold bigLine at hf
  exact getItem_tuple p (by lia) (by lia) (seqIndex_of hlt) hx ⟨v, H, x, hv, h⟩
theorem byteA_get {ns : List Nat} {n : Nat} (hb : ∀ n ∈ ns, n < 256) (hx : ns[i]? = some n) : ((ns.map Nat.toUInt8).getD i 0).toNat = n := by
  have : n < 256 := hb n (List.mem_of_getElem? hx)
  rw [List.getD_eq_getElem?_getD, List.getElem?_map, hx]
  show (Nat.toUInt8 n).toNat = n
  simp
  lia
theorem sub_bytes {ns : List Nat} {n : Nat} (hx : ns[i]? = some n) (hf : ns.length ≤ bigLine) (h : Q (.int n) H) (hs : plainSlice slice := by intro _ _; rfl) : WSub F c value slice (.bytes ns) (.int i) Q X m H := by
  rintro _ _ ⟨hb, t, rfl⟩ ⟨u, rfl⟩
  refine .mk fun h₀ s x => wpC_any ?_
  have hlt : i < ns.length := by obtain ⟨q, _⟩ := List.getElem?_eq_some_iff.mp hx; exact q
  unfold bigLine at hf
  refine tail_any (s := s) (typeIs_bytes s _ _) FB.slot_bytes_getitem.lookup ?_ (hs _ _)
  unfold byteA
  refine getItem_bytes (prog := F.prog) (w := c.w) (by rw [List.length_map]; lia) (by lia) (by rw [List.length_map]; lia) ?_
  rw [Int.toNat_natCast, byteA_get hb hx]
  exact ⟨.int n, H, x.toks _, ⟨_, rfl⟩, h⟩
-- lengths
theorem byteA_size (ns : List Nat) : (byteA ns).size = ns.length := by simp [byteA]
theorem len_list (e : H a = some (.list xs)) (hf : xs.length ≤ bigLine) (h : Q (.int xs.length) H) : WCall F c (.builtin "len") [.ref a] Q X m H := fun vf vs hv hi => .mk fun h₀ s x => by
  obtain rfl : vf = .builtin "len" := hv
  obtain ⟨_, r, rfl, h1, h2⟩ := hi.cons_inv
  obtain rfl := h2.nil_inv
  obtain rfl := (show _ = Value.ref a from h1)
  obtain ⟨us, k, p⟩ := x.list e
  unfold bigLine at hf
  have hz : us.toArray.size = xs.length := by rw [List.size_toArray, k.length]
  refine wpC_any (PySem.Calls.call_len_list p.isList (by lia) ?_)
  exact ⟨.int xs.length, H, x.toks _, ⟨_, by rw [hz]⟩, h⟩
theorem len_script {ob : Obj} {ns : List Int} (e : H a = some (.script ob ns)) (hf : ns.length ≤ bigLine) (h : Q (.int ns.length) H) : WCall F c (.builtin "len") [.ref a] Q X m H := fun vf vs hv hi => .mk fun h₀ s x => by
  obtain rfl : vf = .builtin "len" := hv
  obtain ⟨_, r, rfl, h1, h2⟩ := hi.cons_inv
  obtain rfl := h2.nil_inv
  obtain rfl := (show _ = Value.ref a from h1)
  obtain ⟨us, k, p⟩ := x.scr e
  unfold bigLine at hf
  have hz : us.toArray.size = ns.length := by rw [List.size_toArray, k.length]
  refine wpC_any (PySem.Calls.call_len_list p (by lia) ?_)
  exact ⟨.int ns.length, H, x.toks _, ⟨_, by rw [hz]⟩, h⟩
theorem len_ktup {o : Obj} {us : Array Value} {k n : Nat} (hl : (F.K c.w.params).lookup a = some o) (hc : o.cls = .type "tuple") (hd : o.data = .seq us k) (hn : us.size = n) (hf : n ≤ bigLine) (h : Q (.int n) H) : WCall F c (.builtin "len") [.ref a] Q X m H := fun vf vs hv hi => .mk fun h₀ s x => by
  obtain rfl : vf = .builtin "len" := hv
  obtain ⟨_, r, rfl, h1, h2⟩ := hi.cons_inv
  obtain rfl := h2.nil_inv
  obtain rfl := (show _ = Value.ref a from h1)
  have p : IsTup s.heap a us := ⟨o, x.keep _ _ (x.sta.K _ _ hl), hc, k, hd⟩
  subst hn
  unfold bigLine at hf
  refine wpC_any (len_tuple p (by lia) ?_)
  exact ⟨.int us.size, H, x.toks _, ⟨_, rfl⟩, h⟩
theorem len_bytesA {ns : List Nat} (hf : ns.length ≤ bigLine) (h : Q (.int ns.length) H) : WCall F c (.builtin "len") [.bytes ns] Q X m H := fun vf vs hv hi => .mk fun h₀ s x => by
  obtain rfl : vf = .builtin "len" := hv
  obtain ⟨_, r, rfl, h1, h2⟩ := hi.cons_inv
  obtain rfl := h2.nil_inv
  obtain ⟨hb, t, rfl⟩ := h1
  unfold bigLine at hf
  refine wpC_any (len_bytes (by rw [byteA_size]; lia) ?_)
  exact ⟨.int ns.length, H, x.toks _, ⟨_, by rw [byteA_size]⟩, h⟩
-- sums
theorem add_list (e1 : H a = some (.list xs)) (e2 : H b = some (.list ys)) (hf : xs.length + ys.length ≤ bigLine) (h : ∀ d, H d = none → Q (.ref d) (H.set d (.list (xs ++ ys)))) : WOp F c .Add (.ref a) (.ref b) Q X m H := by
  rintro _ _ rfl rfl
  refine .mk fun h₀ s x => wpC_any ?_
  obtain ⟨us, k, n, p⟩ := x.list e1
  obtain ⟨ws, k2, n2, p2⟩ := x.list e2
  rw [bigLine_eq] at hf
  refine PySem.concat_meets (a := .ref a) (b := .ref b) ⟨_, p, rfl⟩ ⟨_, p2, rfl⟩ noFill_list_add seq_list_add PySem.F.slot_list_add PySem.F.entry_list_add (PySem.F.args_list_add_2 _ _) (list_addW a b us.toArray ws.toArray n n2 none none #[] #[] ?_) ⟨p, p2, ?_⟩
  · rw [List.size_toArray, List.size_toArray, k.length, k2.length]; exact hf
  · obtain ⟨y, hn⟩ := x.new (o := .list (xs ++ ys)) (ob := { cls := .type "list", data := .seq (us.toArray ++ ws.toArray) }) ⟨_, _, rfl, by simpa using k.append k2⟩ rfl
    exact ⟨.ref _, _, y, rfl, h _ hn⟩
theorem byteA_append (xs ys : List Nat) : byteA (xs ++ ys) = byteA xs ++ byteA ys := by simp [byteA]
theorem add_bytesA {xs ys : List Nat} (hf : xs.length + ys.length ≤ bigLine) (h : Q (.bytes (xs ++ ys)) H) : WOp F c .Add (.bytes xs) (.bytes ys) Q X m H := by
  rintro _ _ ⟨hb, t, rfl⟩ ⟨hb2, u, rfl⟩
  refine .mk fun h₀ s x => wpC_any (KBy.add_bytes (by rw [byteA_size, byteA_size]; exact hf) fun t' k => ?_)
  refine ⟨.bytes (xs ++ ys), H, x.toks _, ⟨fun n hn => ?_, t', by rw [byteA_append]⟩, h⟩
  rcases List.mem_append.mp hn with q | q
  · exact hb n q
  · exact hb2 n q
theorem mul_list_any {prog : Program} {w : World} {A : Around} {E : Value → Shared → Prop} {s : Shared} {l : Addr} {items : Array Value} {k : Nat} {x : Int} {u : Tok} {Q : Value → Shared → Prop}
    (hl : s.heap.get? l = some { cls := .type "list", dict := none, data := .seq items k, slots := #[] })
    (hlo : 0 ≤ x) (hhi : x < 2 ^ 63) (hsz : items.size * x.toNat ≤ 2 ^ 24)
    (h : Q (.ref s.heap.objs.size) { s with heap := s.heap.push { cls := .type "list", data := .seq (List.foldl (fun x1 x2 => x1 ++ x2) #[] (List.replicate (if items.isEmpty = true then 0 else x.toNat) items)) } }) :
    wpAny (model prog w) A (binaryOp .Mult (.ref l) (.int x u)) Q E s :=
  wpAny_binaryOp_repeat_ref (T := "list") (U := "int") (by decide) ⟨_, hl, rfl⟩ (fun s' => typeIs_int s' x u) noFill_list_mul PySem.F.fills_int_mul PySem.F.slot_int_rmul repeat_list PySem.F.slot_int_index.lookup
    (call_meets PySem.F.slot_int_rmul (typeIs_int s x u) PySem.F.entry_int_rmul (PySem.F.args_int_rmul_2 _ _) (int___rmul___int_list x u l items k)
      ⟨hl, rfl, ⟨_, hl, rfl⟩, call_meets PySem.F.slot_list_mul ⟨_, hl, rfl⟩ PySem.F.entry_list_mul (PySem.F.args_list_mul_2 _ _)
        (AutoListH.list___mul___list_int_3 l items k x u (by simp [Builtin.List.listFitsIndex]; lia) (by lia) (by simp [Builtin.List.listTooLong, sizeLine]; lia))
        ⟨hl, h⟩⟩)
theorem mul_list1 {n : Nat} (e1 : H a = some (.list [v])) (hf : n ≤ bigLine) (h : ∀ d, H d = none → Q (.ref d) (H.set d (.list (List.replicate n v)))) : WOp F c .Mult (.ref a) (.int n) Q X m H := by
  rintro _ _ rfl ⟨t, rfl⟩
  refine .mk fun h₀ s x => wpC_any ?_
  obtain ⟨us, k, k', p⟩ := x.list e1
  obtain ⟨u, r, rfl, h1, h2⟩ := k.cons_inv
  obtain rfl := h2.nil_inv
  unfold bigLine at hf
  have fold : ∀ (n : Nat) (acc : Array Value), List.foldl (fun x1 x2 => x1 ++ x2) acc (List.replicate n #[u]) = acc ++ (List.replicate n u).toArray := by
    intro n; induction n with
    | zero => intro acc; simp
    | succ n ih => intro acc; rw [List.replicate_succ, List.foldl_cons, ih]; apply Array.ext'; simp [List.replicate_succ]
  have rep : ∀ n : Nat, IsAll (List.replicate n v) (List.replicate n u) := by
    intro n; induction n with
    | zero => trivial
    | succ n ih => exact ⟨h1, ih⟩
  have key : ∀ its : Array Value, its = (List.replicate n u).toArray → PV F c h₀ m Q (.ref s.heap.objs.size) { s with heap := s.heap.push { cls := .type "list", data := .seq its } } := by
    intro its e
    obtain ⟨y, hn⟩ := x.new (o := .list (List.replicate n v)) (ob := { cls := .type "list", data := .seq its }) ⟨_, _, rfl, by rw [e]; exact rep n⟩ rfl
    exact ⟨.ref _, _, y, rfl, h _ hn⟩
  have e0 : List.foldl (fun x1 x2 => x1 ++ x2) #[] (List.replicate (if (#[u] : Array Value).isEmpty = true then 0 else (n : Int).toNat) #[u]) = (List.replicate n u).toArray := by
    rw [if_neg (by simp), Int.toNat_natCast, fold, Array.empty_append]
  refine mul_list_any (items := #[u]) (k := k') (x := (n : Int)) ?_ ?_ ?_ ?_ ?_
  · exact p
  · lia
  · lia
  · rw [Int.toNat_natCast]
    show 1 * n ≤ 2 ^ 24
    rw [Nat.one_mul]
    exact Nat.le_trans hf (Nat.le_of_ble_eq_true rfl)
  · exact key _ e0
end
theorem wpAny_setItem_plain {prog : Program} {w : World} {A : Around} {E : Value → Shared → Prop} {s : Shared} {l : Addr} {items : Array Value} {k : Int} {t : Tok} {v : Value} {Q : Unit → Shared → Prop} (hl : s.heap.PlainList l items)
    (h0 : 0 ≤ k) (hfit : k < 2 ^ 63) (hn : k < items.size)
    (hQ : ∀ h', h'.PlainList l (items.setIfInBounds k.toNat v) → Heap.SameBut l s.heap h' → Q () { s with heap := h' }) :
    wpAny (model prog w) A (setItem (.ref l) (.int k t) v) Q E s := by
  obtain ⟨n, ho⟩ := id hl
  have hT : s.TypeIs (.ref l) "list" := ⟨_, ho, rfl⟩
  unfold setItem
  try with_reducible refine wpAny_holding ?_
  first | refine wpAny_bind (wpAny_pure ?_) | skip
  refine wpAny_bind (wpAny_sequenceKey hT (by decide) ?_)
  refine wpAny_bind (wpAny_callSpecial?_slot (name := Str.ofString "__setitem__") hT slot_list_setitem
    (wpAny_call_entry slot_list_setitem hT entry_list_setitem ?_ (args_list_setitem _ _ _)))
  show wpAny _ _ (Builtin.List.listSubscript? (.int k t) >>= _) _ _ s
  refine wpAny_bind (wpAny_listSubscript_int (fitsIndex_of h0 hfit) ?_)
  clear hfit
  obtain ⟨j, rfl⟩ := Int.eq_ofNat_of_zero_le h0
  have hj : j < items.size := by lia
  have hx' : items[j]? = some items[j] := Array.getElem?_eq_getElem hj
  show wpAny _ _ ((seqItemAt l j >>= fun r => pure (r.map (j, ·))) >>= _) _ _ s
  refine wpAny_bind (wpAny_bind (wpAny_seqItemAt ho rfl (wpAny_pure ?_)))
  rw [hx']
  show wpAny _ _ (setSeqItemAt l j v >>= _) _ _ s
  have hfin : (s.heap.update l (Obj.mapSeq (·.setIfInBounds j v))).PlainList l (items.setIfInBounds j v) := by
    obtain ⟨n', hd'⟩ := Obj.data_mapSeq (o := { cls := .type "list", data := .seq items n }) rfl (·.setIfInBounds j v)
    refine ⟨n', (Heap.get?_update_self _ ho (Obj.isFreed_of_seq hd')).trans ?_⟩
    simp [Obj.mapSeq] at hd' ⊢
    exact hd'
  refine wpAny_bind (wpAny_setSeqItemAt ho rfl ?_)
  first
    | exact wpAny_bind (wpAny_pure (wpAny_pure ⟨.none, rfl, wpAny_pure (hQ _ hfin (Heap.SameBut.update ..))⟩))
    | exact wpAny_pure ⟨.none, rfl, wpAny_pure (hQ _ hfin (Heap.SameBut.update ..))⟩
section
variable {F : FC} {c : Cx} {X : XP} {m : Loc} {H : AHeap}
/-- `x[i] = value`, the list a local -/
theorem WS_SetItem {x : Str} {px ps pos : Pos} {ix : Expr} {value : Expr} {a : Addr} {Q : AFlow → Loc → AHeap → Prop} (hx : At m x (.ref a))
    (h : WE F c value (fun v H => WE F c ix (fun i H => ∃ k : Nat, i = .int k ∧ ∃ xs, H a = some (.list xs) ∧ k < xs.length ∧ xs.length ≤ bigLine ∧ Q .next m (H.set a (.list (xs.set k v)))) X m H) X m H)
    (hs : swapsWithSole [.Subscript (.Name x px) ix ps] value pos.line c.env = pure false := by rfl)
    (hr : (match ix with | .Slice _ _ none _ => true | _ => false) = false := by rfl)
    (hw : swappedStores [.Subscript (.Name x px) ix ps] value c.env = pure none := by rfl) : WS F c (.Assign [.Subscript (.Name x px) ix ps] value pos) Q X m H := .mk fun h₀ s y => by
  rw [PyProof.Rows.exec_Assign]
  refine wpC_at ?_
  rw [hs]
  refine wpC_bind (wpC_pure ?_)
  rw [if_neg (by decide)]
  refine wpC_then (h.run h₀ s y) fun v s1 ⟨av, H1, y1, i1, q1⟩ => ?_
  rw [hw]
  refine wpC_bind (wpC_pure ?_)
  show wpC _ _ (do assignAll v [assign (.Subscript (.Name x px) ix ps) c.env]; pure Flow.next) _ _ s1
  refine wpC_bind ?_
  unfold assignAll
  show wpC _ _ (do
    let ov ← holding [v] (eval (.Name x px) c.env)
    let iv ← holding [v, ov] (eval ix c.env)
    standAt ps
    holding [v, ov, iv] (setItem ov iv v)
    release (match (generalizing := false) ix with | .Slice _ _ none _ => [iv, v, ov] | _ => [v, ov, iv]) []) _ _ s1
  have hn : WE F c (.Name x px) (fun w H' => w = .ref a ∧ H' = H1) X m H1 := WE_local hx ⟨rfl, rfl⟩
  refine wpC_then (wpC_holding (hn.run h₀ s1 y1)) fun ov s2 ⟨aw, H2, y2, i2, e2, e3⟩ => ?_
  subst e2 e3
  obtain rfl : ov = .ref a := i2
  refine wpC_then (wpC_holding (q1.run h₀ s2 y2)) fun iv s3 ⟨ai, H3, y3, i3, k, e4, xs, e5, hk, hl, q⟩ => wpC_at ?_
  subst e4
  obtain ⟨t, rfl⟩ := i3
  obtain ⟨us, ku, p⟩ := y3.list e5
  unfold bigLine at hl
  obtain ⟨n0, p0⟩ := id p
  have hin : k < us.toArray.size := by rw [List.size_toArray, ku.length]; exact hk
  refine wpC_bind (wpC_holding (wpC_any ?_))
  refine wpAny_setItem_plain ⟨n0, p0⟩ (by omega) (by omega) (by omega) fun h' ⟨n', p'⟩ sb => ?_
  refine wpC_release (wpC_bind (wpC_pure (wpC_pure ?_)))
  refine ⟨.next, m, _, y3.upd (o' := .list (xs.set k av)) (t := s3.toks) e5 sb p' ⟨_, n', rfl, ?_⟩, rfl, q⟩
  rw [Int.toNat_natCast, Array.toList_setIfInBounds]
  exact ku.set k i1
end
end Mine
end
section
open PySem PySem.W PyProof.Rows
set_option Elab.async false
set_option linter.unusedVariables false
set_option maxRecDepth 100000
namespace Mine
open Sem (wp)
section
variable {F : FC} {c : Cx} {X : XP} {h₀ : Heap} {m : Loc} {H : AHeap} {s : Shared}
/-- the ground seen from inside a loop: all that stands but our locals and our own objects -/
def loopG (c : Cx) (H : AHeap) (s : Shared) : Heap := hideAll s.heap (c.env.locals :: domOf H s.heap.objs.size)
theorem loopG_of {b : Addr} {o : Obj} (e : (loopG c H s).get? b = some o) : s.heap.get? b = some o := of_hideAll _ e
theorem loopG_get {b : Addr} {o : Obj} (e : s.heap.get? b = some o) (hL : b ≠ c.env.locals) (hb : H b = none) : (loopG c H s).get? b = some o := hideAll_get _ e fun q => by
  rcases List.mem_cons.mp q with q | q
  · exact hL q
  · have := (mem_domOf.mp q).2; rw [hb] at this; cases this
theorem St.inLoop (x : St F c h₀ m H s) : St F c (loopG c H s) m H s := by
  have keep : ∀ b o, h₀.get? b = some o → (loopG c H s).get? b = some o := fun b o e => by
    refine loopG_get (x.keep b o e) (fun q => by rw [q, x.newL] at e; cases e) ?_
    cases q : H b with
    | none => rfl
    | some o' => have := (x.heap b o' q).2.2; rw [e] at this; cases this
  refine ⟨x.ok, x.sta.keeps keep, x.ns, x.loc, x.nd, fun b o e => loopG_of e, ?_, fun b o e => ?_, x.gens, x.os, x.ok.mono _ _ keep x.gp⟩
  · exact hideAll_none _ List.mem_cons_self
  · obtain ⟨⟨ob, g, i⟩, nL, n0⟩ := x.heap b o e
    exact ⟨⟨ob, g, i⟩, nL, hideAll_none _ (List.mem_cons_of_mem _ (mem_domOf.mpr ⟨Heap.lt_size g, by rw [e]; rfl⟩))⟩
theorem St.outLoop {m' : Loc} {H' : AHeap} {s' : Shared} (x : St F c h₀ m H s) (y : St F c (loopG c H s) m' H' s') : St F c h₀ m' H' s' := by
  have keep : ∀ b o, h₀.get? b = some o → (loopG c H s).get? b = some o := fun b o e => by
    refine loopG_get (x.keep b o e) (fun q => by rw [q, x.newL] at e; cases e) ?_
    cases q : H b with
    | none => rfl
    | some o' => have := (x.heap b o' q).2.2; rw [e] at this; cases this
  refine ⟨y.ok, x.sta, y.ns, y.loc, y.nd, fun b o e => y.keep b o (keep b o e), x.newL, fun b o e => ?_, y.gens, y.os, x.gp⟩
  obtain ⟨i, nL, n0⟩ := y.heap b o e
  refine ⟨i, nL, ?_⟩
  cases q : h₀.get? b with
  | none => rfl
  | some o' => rw [keep b o' q] at n0; cases n0

/-- what an iterator has still to give: `It H it xs` -/
inductive ItK where
  | lst (a : Addr) (i : Nat)
  | rng (lo : Int) (n : Nat)
  | stra (x : Str) (i : Nat)
  | strw (x : Str) (i : Nat)
def ItK.In (h : Heap) (I : Addr) : ItK → Prop
  | .lst a i => h.IsListIter I a i
  | .rng lo n => IsRangeIter h I lo n 1
  | .stra x i => ∃ t, h.IsStrIter I "str_ascii_iterator" x t i
  | .strw x i => ∃ t, h.IsStrIter I "str_iterator" x t i
def chars (x : Str) : List AV := x.cps.toList.map fun k => .str ⟨#[k]⟩
def ItK.Gives (H : AHeap) : ItK → List AV → Prop
  | .lst a i, r => ∃ xs, H a = some (.list xs) ∧ i ≤ xs.length ∧ r = xs.drop i
  | .rng lo n, r => r = (List.range n).map fun k : Nat => AV.int (lo + k)
  | .stra x i, r => i ≤ x.cps.size ∧ r = (chars x).drop i
  | .strw x i, r => i ≤ x.cps.size ∧ r = (chars x).drop i
def ItK.succ : ItK → ItK
  | .lst a i => .lst a (i + 1)
  | .rng lo n => .rng (lo + 1) (n - 1)
  | .stra x i => .stra x (i + 1)
  | .strw x i => .strw x (i + 1)
theorem next_item {I : Addr} {k : ItK} {v : AV} {r : List AV} {prog : Program} {w : World} {A : Around} {E : Value → Shared → Prop} {Q : Option Value → Shared → Prop} (x : St F c h₀ m H s) (hi : k.In s.heap I) (hg : k.Gives H (v :: r))
    (hQ : ∀ u h' t, v.Is u → k.succ.In h' I → Heap.SameBut I s.heap h' → Q (some u) { s with heap := h', toks := t }) : wpAny (model prog w) A (pyNext (.ref I)) Q E s := by
  cases k with
  | lst a i =>
    obtain ⟨xs, e, hl, hr⟩ := hg
    obtain ⟨vs, kk, p⟩ := x.list e
    have hx : xs[i]? = some v := by
      have := congrArg List.head? hr
      simpa [List.head?_drop] using this.symm
    obtain ⟨u, eu, iu⟩ := kk.toArrGet hx
    exact wpAny_pyNext_list_item (x := u) hi p.isList eu fun h' hit' hs => hQ u h' _ iu hit' hs
  | rng lo n =>
    have hn : 0 < n := by
      cases n with
      | zero => cases hg
      | succ n => exact Nat.succ_pos n
    obtain ⟨n, rfl⟩ : ∃ k, n = k + 1 := ⟨n - 1, by lia⟩
    have hv : v = .int lo := by
      have hg' : v :: r = (List.range (n + 1)).map fun k : Nat => AV.int (lo + k) := hg
      rw [List.range_succ_eq_map, List.map_cons] at hg'
      injection hg' with h1 _
      rw [h1]; simp
    subst hv
    refine wpAny_pyNext_range_item hi (by lia) fun h' hit' hs => hQ _ h' _ ⟨_, rfl⟩ ?_ hs
    show IsRangeIter h' I (lo + 1) ((n + 1 - 1 : Nat) : Int) 1
    have : (((n + 1 : Nat) : Int) - 1) = ((n + 1 - 1 : Nat) : Int) := by lia
    rw [← this]; exact hit'
  | stra y i =>
    obtain ⟨hl, hr⟩ := hg
    obtain ⟨t, hi⟩ := hi
    have hx : (chars y)[i]? = some v := by
      have := congrArg List.head? hr
      simpa [List.head?_drop] using this.symm
    unfold chars at hx
    rw [List.getElem?_map] at hx
    cases hc : y.cps.toList[i]? with
    | none => rw [hc] at hx; cases hx
    | some k =>
      rw [hc] at hx; cases hx
      exact wpAny_pyNext_ascii_item hi (by simpa using hc) fun h' hit' hs => hQ _ h' _ ⟨_, rfl⟩ ⟨t, hit'⟩ hs
  | strw y i =>
    obtain ⟨hl, hr⟩ := hg
    obtain ⟨t, hi⟩ := hi
    have hx : (chars y)[i]? = some v := by
      have := congrArg List.head? hr
      simpa [List.head?_drop] using this.symm
    unfold chars at hx
    rw [List.getElem?_map] at hx
    cases hc : y.cps.toList[i]? with
    | none => rw [hc] at hx; cases hx
    | some k =>
      rw [hc] at hx; cases hx
      exact wpAny_pyNext_wide_item hi (by simpa using hc) fun h' hit' hs => hQ _ h' _ ⟨_, rfl⟩ ⟨t, hit'⟩ hs
theorem next_end {I : Addr} {k : ItK} {prog : Program} {w : World} {A : Around} {E : Value → Shared → Prop} {Q : Option Value → Shared → Prop} (x : St F c h₀ m H s) (hh : A.handled = none) (hi : k.In s.heap I) (hg : k.Gives H [])
    (hQ : ∀ h', Heap.ExtBut I s.heap h' → Q none { s with heap := h' }) : wpAny (model prog w) A (pyNext (.ref I)) Q E s := by
  cases k with
  | lst a i =>
    obtain ⟨xs, e, hl, hr⟩ := hg
    obtain ⟨vs, kk, p⟩ := x.list e
    have hx : xs.length ≤ i := by simpa using hr.symm
    exact wpAny_pyNext_list_end hh hi p.isList (by simp [kk.length]; lia) hQ
  | rng lo n =>
    have hn : n = 0 := by
      have := congrArg List.length (show ([] : List AV) = (List.range n).map fun k : Nat => AV.int (lo + k) from hg)
      simpa using this.symm
    subst hn
    exact wpAny_pyNext_range_end hh hi (by simp) hQ
  | stra y i =>
    obtain ⟨hl, hr⟩ := hg
    obtain ⟨t, hi⟩ := hi
    have hx : y.cps.size ≤ i := by simpa [chars] using hr.symm
    exact wpAny_pyNext_ascii_end hh hi (by simpa using hx) hQ
  | strw y i =>
    obtain ⟨hl, hr⟩ := hg
    obtain ⟨t, hi⟩ := hi
    have hx : y.cps.size ≤ i := by simpa [chars] using hr.symm
    exact wpAny_pyNext_wide_end hh hi (by simpa using hx) hQ
theorem ItK.succ_gives {k : ItK} {v : AV} {r : List AV} (h : k.Gives H (v :: r)) : k.succ.Gives H r := by
  cases k with
  | lst a i =>
    obtain ⟨xs, e, hl, hr⟩ := h
    have hlt : i < xs.length := by
      have := congrArg List.length hr; simp at this; lia
    exact ⟨xs, e, hlt, by have := congrArg List.tail hr; simpa using this⟩
  | rng lo n =>
    have hg' : v :: r = (List.range n).map fun k : Nat => AV.int (lo + k) := h
    cases n with
    | zero => cases hg'
    | succ n =>
      rw [List.range_succ_eq_map, List.map_cons] at hg'
      injection hg' with _ h2
      show r = _
      rw [h2, List.map_map]
      refine List.map_congr_left fun a _ => ?_
      show AV.int _ = AV.int _
      congr 1
      push_cast
      lia
  | stra x i =>
    obtain ⟨hl, hr⟩ := h
    have hlt : i < x.cps.size := by
      have := congrArg List.length hr; simp [chars] at this; lia
    exact ⟨hlt, by have := congrArg List.tail hr; simpa using this⟩
  | strw x i =>
    obtain ⟨hl, hr⟩ := h
    have hlt : i < x.cps.size := by
      have := congrArg List.length hr; simp [chars] at this; lia
    exact ⟨hlt, by have := congrArg List.tail hr; simpa using this⟩
/-- an iterator is kept: it is no object of ours and not our locals -/
theorem ItK.In.keep {k : ItK} {I : Addr} {h h' : Heap} (x : k.In h I) (hk : ∀ o, h.get? I = some o → h'.get? I = some o) : k.In h' I := by
  cases k with
  | lst a i => obtain ⟨o, e, r⟩ := x; exact ⟨o, hk _ e, r⟩
  | rng lo n => exact hk _ x
  | stra y i => obtain ⟨t, o, e, r⟩ := x; exact ⟨t, o, hk _ e, r⟩
  | strw y i => obtain ⟨t, o, e, r⟩ := x; exact ⟨t, o, hk _ e, r⟩
end
end Mine
end
section
open PySem PySem.W PyProof.Rows
set_option Elab.async false
set_option linter.unusedVariables false
set_option maxRecDepth 100000
namespace Mine
open Sem (wp)
/-- what may be looped over, what it gives, and what has to stand while it is looped over -/
inductive IterOf (H : AHeap) : AV → List AV → (AHeap → Prop) → Prop
  | list {a : Addr} {xs : List AV} (e : H a = some (.list xs)) : IterOf H (.ref a) xs (fun H => H a = some (.list xs))
  | range {a : Addr} {lo hi : Int} (e : H a = some (.range lo hi)) (h1 : -(2 ^ 62) ≤ lo) (h2 : lo ≤ hi) (h3 : hi < 2 ^ 62) : IterOf H (.ref a) ((List.range (hi - lo).toNat).map fun k : Nat => AV.int (lo + k)) (fun _ => True)
  | str {x : Str} : IterOf H (.str x) (chars x) (fun _ => True)
def loopQ (I : Loc → AHeap → Prop) (Q : AFlow → Loc → AHeap → Prop) : AFlow → Loc → AHeap → Prop
  | .next, m, H => I m H
  | .cont, m, H => I m H
  | .brk, m, H => Q .next m H
  | .ret v, m, H => Q (.ret v) m H
abbrev Asg := AV → Loc → AHeap → (Loc → AHeap → Prop) → Prop
def WLoop (F : FC) (c : Cx) (asg : Asg) (body : List Stmt) (S : AHeap → Prop) (Q : AFlow → Loc → AHeap → Prop) : List AV → Loc → AHeap → Prop
  | [], m, H => S H ∧ Q .next m H
  | v :: r, m, H => S H ∧ asg v m H (fun m H => WSs F c body (loopQ (fun m H => WLoop F c asg body S Q r m H) Q) noX m H)
section
variable {F : FC} {c : Cx} {X : XP} {h₀ : Heap} {m : Loc} {H : AHeap} {s : Shared}
def IsItCls (h : Heap) (I : Addr) : Prop := ∃ o, h.get? I = some o ∧ (o.cls = .type "list_iterator" ∨ o.cls = .type "range_iterator" ∨ o.cls = .type "str_ascii_iterator" ∨ o.cls = .type "str_iterator")
theorem ItK.In.cls {k : ItK} {h : Heap} {I : Addr} (x : k.In h I) : IsItCls h I := by
  cases k with
  | lst a i => obtain ⟨o, e, r, _⟩ := x; exact ⟨o, e, .inl r⟩
  | rng lo n => exact ⟨_, x, .inr (.inl rfl)⟩
  | stra y i => obtain ⟨t, o, e, r, _⟩ := x; exact ⟨o, e, .inr (.inr (.inl r))⟩
  | strw y i => obtain ⟨t, o, e, r, _⟩ := x; exact ⟨o, e, .inr (.inr (.inr r))⟩
/-- a new iterator -/
theorem iter_new {it : AV} {u : Value} {xs : List AV} {S : AHeap → Prop} {prog : Program} {w : World} {A : Around} {E : Value → Shared → Prop} {Q : Value → Shared → Prop} (x : St F c h₀ m H s) (hi : IterOf H it xs S) (iu : it.Is u)
    (hQ : ∀ (k : ItK) ob, ob.isFreed = false → k.In (s.heap.push ob) s.heap.objs.size → (∀ H', S H' → k.Gives H' xs) → Q (.ref s.heap.objs.size) { s with heap := s.heap.push ob }) :
    wpAny (model prog w) A (pyIter u) Q E s := by
  cases hi with
  | @list a xs e =>
    obtain rfl : u = .ref a := iu
    obtain ⟨vs, kk, p⟩ := x.list e
    exact wpAny_pyIter_list p.isList (hQ (.lst a 0) _ rfl ⟨_, Heap.get?_push_size _ rfl, rfl, rfl⟩ fun H' e' => ⟨xs, e', Nat.zero_le _, rfl⟩)
  | @range a lo hi e h1 h2 h3 =>
    obtain rfl : u = .ref a := iu
    obtain ⟨⟨ob, g, t1, t2, t3, rfl⟩, _⟩ := x.heap a _ e
    refine wpAny_pyIter_range g (small_one h1 (by lia) (by lia) h3) ?_
    have hz : Builtin.Range.rangeSize lo hi 1 = ((hi - lo).toNat : Nat) := by
      rw [rangeSize_one]; split <;> lia
    rw [hz]
    exact hQ (.rng lo (hi - lo).toNat) _ rfl (Heap.get?_push_size _ rfl) fun H' _ => rfl
  | @str y =>
    obtain ⟨t, rfl⟩ := iu
    cases ha : y.cps.all (· < 128)
    · exact wpAny_pyIter_wide ha (hQ (.strw y 0) _ rfl ⟨t, _, Heap.get?_push_size _ rfl, rfl, rfl⟩ fun H' _ => ⟨Nat.zero_le _, rfl⟩)
    · exact wpAny_pyIter_ascii ha (hQ (.stra y 0) _ rfl ⟨t, _, Heap.get?_push_size _ rfl, rfl, rfl⟩ fun H' _ => ⟨Nat.zero_le _, rfl⟩)
theorem codeC_block {prog : Program} {w : World} {A : Around} {env : Env} {stmts : List Stmt} {R : Result → Shared → Prop} {E : Value → Shared → Prop}
    (h : wpC (model prog w) A (execs stmts env) (fun f s' => R (.ok f) s') (fun _ _ => False) s) : codeC (model prog w) A (.block stmts env) R s := by
  refine codeC_of_tree rfl ?_
  show wpC _ A (do return Fin.done (← (execs stmts env).onRaise (fun x => do noteFrame x env; theTreesLotGoes x))) _ _ s
  exact wpC_bind (wpC_noted (wpC_mono h (fun f s' h' => wpC_pure h') fun _ _ h' => h'.elim))

/-- one that may be loop variables -/
def AsgOk (F : FC) (c : Cx) (target : Expr) (asg : Asg) : Prop :=
  (∀ v m H k, asg v m H k → ∀ u h₀ s, v.Is u → St F c h₀ m H s → wpC (model F.prog c.w) c.A (assign target c.env u) (fun _ s' => PU F c h₀ k s') (fun _ _ => False) s) ∧
  ∀ I u s, IsItCls s.heap I → ∀ Q E, Q () s → wpAny (model F.prog c.w) c.A (letOwnedTupleGo target (.ref I) u) Q E s
theorem under_forLoop (A : Around) (t : Expr) (it : Value) (b o : List Stmt) (e : Env) : A.under (.forLoop t it b o e) = A := rfl
theorem for_code {target : Expr} {body : List Stmt} {asg : Asg} {S : AHeap → Prop} {Q : AFlow → Loc → AHeap → Prop} {I : Addr} {k : ItK} {xs : List AV} (hasg : AsgOk F c target asg)
    (x : St F c h₀ m H s) (hI : k.In s.heap I) (hIL : I ≠ c.env.locals) (hIH : H I = none) (hI0 : h₀.get? I = none) (hg : ∀ H', S H' → k.Gives H' xs) (hl : WLoop F c asg body S Q xs m H) :
    codeC (model F.prog c.w) c.A (.forLoop target (.ref I) body [] c.env) (fun r s' => ∃ f, r = .ok f ∧ PF F c h₀ Q f s') s := by
  refine codeC_loop rfl rfl (fun n s => ∃ r m H, ∃ k : ItK, n = r.length ∧ St F c h₀ m H s ∧ k.In s.heap I ∧ H I = none ∧ (∀ H', S H' → k.Gives H' r) ∧ WLoop F c asg body S Q r m H) ?_ xs.length ⟨xs, m, H, k, rfl, x, hI, hIH, hg, hl⟩
  rintro n s ⟨r, m, H, k, rfl, x, hI, hIH, hg, hl⟩
  show wpC _ c.A ((forTurn target (.ref I) body [] c.env).onRaise (fun x => do noteFrame x c.env; theTreesLotGoes x)) _ _ s
  have fin : ∀ (E : Value → Shared → Prop), wpC (model F.prog c.w) c.A (forTurn target (.ref I) body [] c.env) (fun fin s' =>
      match fin with
      | .done f => ∃ f', (Except.ok f : Result) = Except.ok f' ∧ PF F c h₀ Q f' s'
      | .again c' => (c' = .forLoop target (.ref I) body [] c.env ∧ ∃ m, m < r.length ∧ ∃ r m' H, ∃ k : ItK, m = r.length ∧ St F c h₀ m' H s' ∧ k.In s'.heap I ∧ H I = none ∧ (∀ H', S H' → k.Gives H' r) ∧ WLoop F c asg body S Q r m' H) ∨
          (c'.quiet = true ∧ codeC (model F.prog c.w) c.A c' (fun r s' => ∃ f, r = .ok f ∧ PF F c h₀ Q f s') s')) E s := by
    intro E
    simp only [forTurn]
    refine wpC_at ?_
    cases r with
    | nil =>
      refine wpC_bind (wpC_onRaise (wpC_any (next_end x x.ok.hh hI (hg H hl.1) fun h' e' => ?_)))
      refine wpC_pure (.inr ⟨rfl, codeC_block (E := fun _ _ => False) (wpC_pure ?_)⟩)
      refine ⟨_, rfl, .next, m, H, ?_, rfl, hl.2⟩
      refine ⟨x.ok, x.sta, ?_, x.loc, x.nd, fun b o e => e' b o (fun q => by rw [q, hI0] at e; cases e) (x.keep b o e), x.newL, fun a o e => ?_, x.gens, x.os, x.gp⟩
      · obtain ⟨mm, n, hm⟩ := x.ns
        exact ⟨mm, n.extBut e' (Ne.symm hIL), hm⟩
      · obtain ⟨⟨ob, g, i⟩, r⟩ := x.heap a o e
        exact ⟨⟨ob, e' a ob (fun q => by rw [q, hIH] at e; cases e) g, i⟩, r⟩
    | cons v r =>
      refine wpC_bind (wpC_onRaise (wpC_any (next_item x hI (hg H hl.1) fun u h' t iu hI' sb => ?_)))
      have y : St F c h₀ m H { s with heap := h', toks := t } := by
        refine ⟨x.ok, x.sta, ?_, x.loc, x.nd, fun b o e => (sb.2 b fun q => by rw [q, hI0] at e; cases e).trans (x.keep b o e), x.newL, fun a o e => ?_, x.gens, x.os, x.gp⟩
        · obtain ⟨mm, n, hm⟩ := x.ns
          exact ⟨mm, n.sameBut sb (Ne.symm hIL), hm⟩
        · obtain ⟨⟨ob, g, i⟩, r⟩ := x.heap a o e
          exact ⟨⟨ob, (sb.2 a fun q => by rw [q, hIH] at e; cases e).trans g, i⟩, r⟩
      refine wpC_bind (wpC_any (hasg.2 I u _ hI'.cls _ _ ?_))
      have yl := y.inLoop
      have keepI : ∀ o, h'.get? I = some o → (loopG c H { s with heap := h', toks := t }).get? I = some o := fun o e => loopG_get e hIL hIH
      refine wpC_bind (wpC_mono (hasg.1 v m H _ hl.2 u _ _ iu yl) (fun _ s2 ⟨m2, H2, y2, q2⟩ => ?_) fun _ _ z => z.elim)
      refine wpC_bind (wpC_mono (q2.run _ _ y2) (fun f s3 ⟨af, m3, H3, y3, i3, q3⟩ => ?_) fun _ _ z => z.elim)
      have z3 := y.outLoop y3
      have fI : ∃ o, (loopG c H { s with heap := h', toks := t }).get? I = some o := let ⟨o, e, _⟩ := hI'.cls; ⟨o, keepI o e⟩
      have hI3 : k.succ.In s3.heap I := hI'.keep fun o e => y3.keep _ _ (keepI o e)
      have hH3 : H3 I = none := by
        cases q : H3 I with
        | none => rfl
        | some o =>
          obtain ⟨o', e'⟩ := fI
          have := (y3.heap I o q).2.2
          rw [e'] at this; cases this
      have again : WLoop F c asg body S Q r m3 H3 → _ := fun q => (⟨rfl, r.length, Nat.lt_succ_self _, r, m3, H3, k.succ, rfl, z3, hI3, hH3, fun H' sH => ItK.succ_gives (hg H' sH), q⟩ : Code.forLoop target (.ref I) body [] c.env = .forLoop target (.ref I) body [] c.env ∧ ∃ m, m < r.length + 1 ∧ ∃ r m' H, ∃ k : ItK, m = r.length ∧ St F c h₀ m' H s3 ∧ k.In s3.heap I ∧ H I = none ∧ (∀ H', S H' → k.Gives H' r) ∧ WLoop F c asg body S Q r m' H)
      cases af with
      | next => cases i3; exact wpC_pure (.inl (again q3))
      | cont => cases i3; exact wpC_pure (.inl (again q3))
      | brk => cases i3; exact wpC_pure ⟨_, rfl, .next, m3, H3, z3, rfl, q3⟩
      | ret a => obtain ⟨w, rfl, iw⟩ := i3; exact wpC_pure ⟨_, rfl, .ret a, m3, H3, z3, ⟨w, rfl, iw⟩, q3⟩
  refine wpC_noted (wpC_mono (fin _) (fun fin s' q => ?_) fun _ _ z => z)
  exact q
theorem WS_ForA {target iter : Expr} {body : List Stmt} {pos : Pos} {asg : Asg} {Q : AFlow → Loc → AHeap → Prop} (hasg : AsgOk F c target asg)
    (h : WE F c iter (fun it H => ∃ xs S H', IterOf H it xs S ∧ H'.Sub H ∧ WLoop F c asg body S Q xs m H') X m H)
    (hs : ∀ x, foldedSetIterable iter c.env x = pure x := by intro _; rfl) : WS F c (.For target iter body [] pos) Q X m H := .mk fun h₀ s x => by
  show wpC _ _ (exec (.For target iter body [] pos) c.env) _ _ _
  rw [exec_For]
  refine wpC_at (wpC_then (h.run h₀ s x) fun u s1 ⟨it, H1, x1, i1, xs, S, H', hi, sub, hl⟩ => ?_)
  rw [hs]
  refine wpC_bind (wpC_pure (wpC_at ?_))
  refine wpC_bind (wpC_holding (wpC_any (iter_new x1 hi i1 fun k ob hf hI hg => ?_)))
  have hI0 : h₀.get? s1.heap.objs.size = none := by
    cases q : h₀.get? s1.heap.objs.size with
    | none => rfl
    | some o => exact absurd (Heap.lt_size (x1.keep _ _ q)) (Nat.lt_irrefl _)
  have hIL : s1.heap.objs.size ≠ c.env.locals := fun e => by
    obtain ⟨mm, ⟨oL, es, ep, ho, _⟩, _⟩ := x1.ns
    have := Heap.lt_size ho
    rw [← e] at this; exact Nat.lt_irrefl _ this
  have hIH : H1 s1.heap.objs.size = none := by
    cases q : H1 s1.heap.objs.size with
    | none => rfl
    | some o => obtain ⟨⟨ob', g, _⟩, _⟩ := x1.heap _ o q; exact absurd (Heap.lt_size g) (Nat.lt_irrefl _)
  have y := ((x1.grow (t := s1.toks) (h' := s1.heap.push ob) fun b o e => Heap.get?_push_of_some _ e).weak sub)
  refine wpC_runOwn ?_
  have hm : c.A.mark none = c.A := rfl
  rw [hm]
  have r := for_code hasg y hI hIL (sub.none hIH) hI0 hg hl
  intro Γ p hc hΓ h2
  refine wpCode_mono ?_ (r Γ p hc hΓ h2)
  rintro r s' ⟨f, rfl, q⟩
  exact q
end
end Mine
end
section
open PySem PySem.W PyProof.Rows
set_option Elab.async false
set_option linter.unusedVariables false
set_option maxRecDepth 100000
namespace Mine
open Sem (wp)
section
variable {prog : Program} {w : World} {A : Around} {E : Value → Shared → Prop} {s : Shared}
theorem draw_lst {it l : Addr} {items : Array Value} (hne : l ≠ it) : ∀ (n i : Nat) (s : Shared) (Q : List Value → Shared → Prop), s.heap.IsListIter it l i → s.heap.IsList l items → i + n ≤ items.size →
    (∀ h', h'.IsListIter it l (i + n) → Heap.SameBut it s.heap h' → Q ((items.toList.drop i).take n) { s with heap := h' }) → wpAny (model prog w) A (draw (.ref it) n) Q E s
  | 0, i, s, Q, hit, hl, _, hQ => by
    have := hQ s.heap hit (Heap.SameBut.refl ..)
    exact wpAny_pure (by simpa using this)
  | n + 1, i, s, Q, hit, hl, hn, hQ => by
    have hlt : i < items.size := by lia
    show wpAny _ _ (pyNext (.ref it) >>= _) _ _ s
    refine wpAny_bind (wpAny_pyNext_list_item (x := items[i]) hit hl (Array.getElem?_eq_getElem hlt) fun h' hit' hs => ?_)
    refine wpAny_bind (wpAny_holding (draw_lst hne n (i + 1) { s with heap := h' } _ hit' (hl.extBut hs.extBut hne) (by lia) fun h'' hit'' hs'' => ?_))
    have e : items[i] :: (items.toList.drop (i + 1)).take n = (items.toList.drop i).take (n + 1) := by
      rw [List.drop_eq_getElem_cons (i := i) (by simpa using hlt), List.take_succ_cons]; simp
    refine wpAny_pure ?_
    rw [e]
    have := hQ h'' (by rw [show i + (n + 1) = i + 1 + n by lia]; exact hit'') (hs.trans hs'')
    exact this
theorem unpack_lst {t : Addr} {items : Array Value} {Q : List Value → Shared → Prop} (hh : A.handled = none) (ht : s.heap.IsList t items)
    (hQ : ∀ h', Heap.ExtBut s.heap.objs.size s.heap h' → Q items.toList { s with heap := h' }) : wpAny (model prog w) A (unpackItems (.ref t) items.size none) Q E s := by
  have hlt : t ≠ s.heap.objs.size := by obtain ⟨o, ho, _⟩ := ht; exact Nat.ne_of_lt (Heap.lt_size ho)
  unfold unpackItems
  refine wpAny_bind ?_
  unfold notIterableAtAll
  refine wpAny_bind (wpAny_specialOf ht.typeIs slot_list_iter.lookup ?_)
  refine wpAny_pure ?_
  simp only [Bool.false_eq_true, if_false]
  refine wpAny_bind (wpAny_holding (wpAny_pyIter_list ht ?_))
  refine wpAny_bind (wpAny_holding (draw_lst hlt items.size 0 _ _ ⟨_, Heap.get?_push_size _ rfl, rfl, rfl⟩ (ht.push _) (by lia) fun h₁ hit₁ hs₁ => ?_))
  have hall : List.take items.size (List.drop 0 items.toList) = items.toList := by
    rw [List.drop_zero]; exact List.take_of_length_le (by simp)
  rw [hall]
  rw [if_neg (by simp)]
  have ht₁ : h₁.IsList t items := (ht.push _).extBut hs₁.extBut hlt
  refine wpAny_bind (wpAny_holding (wpAny_pyNext_list_end hh hit₁ ht₁ (by simp) fun h₂ he₂ => ?_))
  simp only [Option.isSome_none, Bool.false_eq_true, if_false]
  exact wpAny_pure (hQ h₂ fun b o hb e => he₂ b o hb (hs₁.extBut b o hb (Heap.get?_push_of_some _ e)))
end
inductive Seq2 (H : AHeap) : AV → List AV → Prop
  | list {a : Addr} {xs : List AV} (e : H a = some (.list xs)) : Seq2 H (.ref a) xs
  | tuple {a : Addr} {xs : List AV} (e : H a = some (.tuple xs)) : Seq2 H (.ref a) xs
section
variable {F : FC} {c : Cx} {X : XP} {h₀ : Heap} {m m' : Loc} {H : AHeap} {s : Shared}
theorem unpack_any {it : AV} {u : Value} {xs : List AV} {n : Nat} {Q : List Value → Shared → Prop} {E : Value → Shared → Prop} (x : St F c h₀ m H s) (hs : Seq2 H it xs) (iu : it.Is u) (hn : xs.length = n)
    (hQ : ∀ vs s', IsAll xs vs → St F c h₀ m H s' → Q vs s') : wpAny (model F.prog c.w) c.A (unpackItems u n none) Q E s := by
  subst hn
  have done : ∀ (vs : List Value) h', IsAll xs vs → Heap.ExtBut s.heap.objs.size s.heap h' → Q vs { s with heap := h' } := fun vs h' k e => hQ _ _ k (x.grow (t := s.toks) fun b o g => e b o (Nat.ne_of_lt (Heap.lt_size g)) g)
  cases hs with
  | list e =>
    obtain rfl : u = .ref _ := iu
    obtain ⟨vs, k, p⟩ := x.list e
    have hz : xs.length = vs.toArray.size := by rw [List.size_toArray, k.length]
    rw [hz]
    exact unpack_lst x.ok.hh p.isList fun h' e' => by simpa using done vs h' k e'
  | tuple e =>
    obtain rfl : u = .ref _ := iu
    obtain ⟨vs, k, p⟩ := x.tup e
    have hz : xs.length = vs.toArray.size := by rw [List.size_toArray, k.length]
    rw [hz]
    exact unpackItems_tuple x.ok.hh p fun h' e' => by simpa using done vs h' k e'
theorem bind_local {y : Str} {v : AV} {u : Value} {Q : Unit → Shared → Prop} {E : Value → Shared → Prop} (x : St F c h₀ m H s) (hp : Put m y v m') (i : v.Is u) (hQ : ∀ s', St F c h₀ m' H s' → Q () s') :
    wpAny (model F.prog c.w) c.A (bindName c.env y u) Q E s := by
  refine wpAny_bindName ?_
  have hk : c.env.kindOf y = some .local := by
    unfold Env.kindOf; rw [x.ok.scope]; exact (x.loc y hp.has).1
  obtain ⟨mm, hn, hmm⟩ := x.ns
  refine wpAny_storeName_local hk hn (fun h' hn' sb => hQ _ (x.store hp i hmm hn' sb)) ?_
  rw [x.ok.scope, x.ok.kind]; rfl
theorem assign_local {y : Str} {p : Pos} {v : AV} {u : Value} {Q : Unit → Shared → Prop} {E : Value → Shared → Prop} (x : St F c h₀ m H s) (hp : Put m y v m') (i : v.Is u) (hQ : ∀ s', St F c h₀ m' H s' → Q () s') :
    wpAny (model F.prog c.w) c.A (assign (.Name y p) c.env u) Q E s := by
  rw [PySem.assign_Name]
  exact wpAny_bind (wpAny_standAt (bind_local x hp i hQ))
/-- the stores of several values one behind the other -/
def Puts (m : Loc) : List Str → List AV → Loc → Prop
  | [], [], m' => m' = m
  | y :: ys, v :: vs, m' => ∃ m1, Put m y v m1 ∧ Puts m1 ys vs m'
  | _, _, _ => False
theorem assign_each {names : List (Str × Pos)} : ∀ {m m' : Loc} {vs : List AV} {us : List Value} {s : Shared} {Q : Unit → Shared → Prop} {E : Value → Shared → Prop}, St F c h₀ m H s → Puts m (names.map (·.1)) vs m' → IsAll vs us → (∀ s', St F c h₀ m' H s' → Q () s') →
    wpAny (model F.prog c.w) c.A (assignInOrder ((assignEach (names.map fun n => Expr.Name n.1 n.2) c.env).map (·.2)) us) Q E s := by
  induction names with
  | nil =>
    intro m m' vs us s Q E x hp hi hQ
    cases vs with
    | nil => rw [hi.nil_inv]; obtain rfl : m' = m := hp; exact wpAny_pure (hQ _ x)
    | cons => exact hp.elim
  | cons n names ih =>
    intro m m' vs us s Q E x hp hi hQ
    cases vs with
    | nil => exact hp.elim
    | cons v vs =>
      obtain ⟨u, r, rfl, h1, h2⟩ := hi.cons_inv
      obtain ⟨m1, p1, p2⟩ := hp
      show wpAny _ _ (do holding r (assign (.Name n.1 n.2) c.env u); assignInOrder ((assignEach (names.map fun n => Expr.Name n.1 n.2) c.env).map (·.2)) r) _ _ _
      exact wpAny_bind (wpAny_holding (assign_local x p1 h1 fun s' x' => ih x' p2 h2 hQ))
theorem bind_each {names : List Str} : ∀ {m m' : Loc} {vs : List AV} {us : List Value} {s : Shared} {Q : Unit → Shared → Prop} {E : Value → Shared → Prop}, St F c h₀ m H s → Puts m names vs m' → IsAll vs us → (∀ s', St F c h₀ m' H s' → Q () s') →
    wpAny (model F.prog c.w) c.A (assignInOrder (names.map fun n => bindName c.env n) us) Q E s := by
  induction names with
  | nil =>
    intro m m' vs us s Q E x hp hi hQ
    cases vs with
    | nil => rw [hi.nil_inv]; obtain rfl : m' = m := hp; exact wpAny_pure (hQ _ x)
    | cons => exact hp.elim
  | cons n names ih =>
    intro m m' vs us s Q E x hp hi hQ
    cases vs with
    | nil => exact hp.elim
    | cons v vs =>
      obtain ⟨u, r, rfl, h1, h2⟩ := hi.cons_inv
      obtain ⟨m1, p1, p2⟩ := hp
      exact wpAny_bind (wpAny_holding (bind_local x p1 h1 fun s' x' => ih x' p2 h2 hQ))
theorem each_length (names : List (Str × Pos)) (env : Env) : (assignEach (names.map fun n => Expr.Name n.1 n.2) env).length = names.length ∧ (assignEach (names.map fun n => Expr.Name n.1 n.2) env).findIdx? (·.1) = none := by
  induction names with
  | nil => exact ⟨rfl, rfl⟩
  | cons n names ih =>
    have e : assignEach ((n :: names).map fun n => Expr.Name n.1 n.2) env = (false, assign (.Name n.1 n.2) env) :: assignEach (names.map fun n => Expr.Name n.1 n.2) env := rfl
    rw [e]
    refine ⟨by rw [List.length_cons, ih.1]; rfl, ?_⟩
    rw [List.findIdx?_cons, ih.2]; rfl
theorem assign_tuple {names : List (Str × Pos)} {k : Nat} {p : Pos} {it : AV} {xs : List AV} {u : Value} {Q : Unit → Shared → Prop} {E : Value → Shared → Prop} (x : St F c h₀ m H s) (hs : Seq2 H it xs) (i : it.Is u) (hp : Puts m (names.map (·.1)) xs m') (hn : xs.length = names.length) (hQ : ∀ s', St F c h₀ m' H s' → Q () s') :
    wpAny (model F.prog c.w) c.A (assign (.Tuple (names.map fun n => Expr.Name n.1 n.2) k p) c.env u) Q E s := by
  rw [PyProof.Rows.assign_Tuple]
  refine wpAny_bind (wpAny_standAt ?_)
  unfold unpack
  obtain ⟨e1, e2⟩ := each_length names c.env
  rw [e1, e2]
  exact wpAny_bind (wpAny_holding (unpack_any x hs i hn fun vs s' ks x' => assign_each x' hp ks hQ))

/-- `a, b = value` -/
theorem WS_AssignT {names : List (Str × Pos)} {elts : List Expr} {k : Nat} {tpos pos : Pos} {value : Expr} {Q : AFlow → Loc → AHeap → Prop} (he : elts = names.map fun n => Expr.Name n.1 n.2)
    (h : WE F c value (fun a H => ∃ xs m', Seq2 H a xs ∧ xs.length = names.length ∧ Puts m (names.map (·.1)) xs m' ∧ Q .next m' H) X m H)
    (hs : swapsWithSole [.Tuple elts k tpos] value pos.line c.env = pure false := by rfl)
    (hw : swappedStores [.Tuple elts k tpos] value c.env = pure none := by rfl) : WS F c (.Assign [.Tuple elts k tpos] value pos) Q X m H := by
  refine .mk fun h₀ s y => ?_
  rw [PyProof.Rows.exec_Assign]
  refine wpC_at ?_
  rw [hs]
  refine wpC_bind (wpC_pure ?_)
  rw [if_neg (by decide)]
  refine wpC_then (h.run h₀ s y) fun v s1 q => ?_
  obtain ⟨a, H1, x1, i1, xs, m', q1, q2, q3, q4⟩ := q
  rw [hw]
  refine wpC_bind (wpC_pure ?_)
  unfold assignStores
  dsimp only
  have e : (assignEach [Expr.Tuple elts k tpos] c.env).map (·.2) = [assign (.Tuple elts k tpos) c.env] := rfl
  rw [e]
  refine wpC_bind (wpC_any ?_)
  unfold assignAll
  subst he
  exact assign_tuple x1 q1 i1 q3 q2 fun s' x' => wpC_pure ⟨.next, m', H1, x', rfl, q4⟩
/-- `a, b = (x, y)`: the stores are swapped -/
theorem WS_AssignS {names : List (Str × Pos)} {elts : List Expr} {k k' : Nat} {tpos vpos pos : Pos} {vals : List Expr} {Q : AFlow → Loc → AHeap → Prop}
    (h : WE F c (.Tuple vals k' vpos) (fun a H => ∃ xs m', Seq2 H a xs ∧ xs.length = names.length ∧ Puts m (names.map (·.1)).reverse xs.reverse m' ∧ Q .next m' H) X m H)
    (hw : ∀ env : Env, env.scope = F.scope → swappedStores [.Tuple elts k tpos] (.Tuple vals k' vpos) env = pure (some (names.map (·.1)))) : WS F c (.Assign [.Tuple elts k tpos] (.Tuple vals k' vpos) pos) Q X m H := .mk fun h₀ s y => by
  rw [PyProof.Rows.exec_Assign]
  refine wpC_at ?_
  rw [show swapsWithSole [.Tuple elts k tpos] (.Tuple vals k' vpos) pos.line c.env = pure false from rfl, hw _ y.ok.scope]
  refine wpC_bind (wpC_pure ?_)
  rw [if_neg (by decide)]
  refine wpC_then (h.run h₀ s y) fun v s1 ⟨a, H1, x1, i1, xs, m', q1, q2, q3, q4⟩ => ?_
  refine wpC_bind (wpC_pure (wpC_any ?_))
  unfold assignStores
  dsimp only
  refine wpAny_bind (wpAny_rule (wpAny_bind (unpack_any x1 q1 i1 (by rw [q2, List.length_map]) fun vs s' ks x' => ?_)))
  exact wpAny_bind (bind_each x' q3 ks.reverse fun s'' x'' => wpAny_pure ⟨.next, m', H1, x'', rfl, q4⟩)

def asgN (y : Str) : Asg := fun v m H k => ∃ m', Put m y v m' ∧ k m' H
def asgT (ys : List Str) : Asg := fun v m H k => ∃ xs m', Seq2 H v xs ∧ xs.length = ys.length ∧ Puts m ys xs m' ∧ k m' H
theorem asgN_ok {y : Str} {p : Pos} : AsgOk F c (.Name y p) (asgN y) := by
  refine ⟨fun v m H k ⟨m', hp, hk⟩ u h₀ s i x => wpC_any (assign_local x hp i fun s' x' => ⟨m', H, x', hk⟩), fun I u s _ Q E q => ?_⟩
  exact wpAny_of_eq (a := ()) rfl q
theorem asgT_ok {names : List (Str × Pos)} {elts : List Expr} {k : Nat} {p : Pos} (he : elts = names.map fun n => Expr.Name n.1 n.2) : AsgOk F c (.Tuple elts k p) (asgT (names.map (·.1))) := by
  subst he
  constructor
  · intro v m H k q u h₀ s i x
    obtain ⟨xs, m', hs, hn, hp, hk⟩ := q
    exact wpC_any (assign_tuple x hs i hp (by rw [hn, List.length_map]) fun s' x' => ⟨m', H, x', hk⟩)
  intro I u s hI Q E q
  obtain ⟨o, e, hc⟩ := hI
  cases u with
  | ref a =>
    show wpAny _ _ (load I >>= _) _ _ _
    refine wpAny_bind (wpAny_load e ?_)
    obtain ⟨cls, d, dt, sl⟩ := o
    dsimp only at hc
    rcases hc with rfl | rfl | rfl | rfl <;> cases dt <;> exact wpAny_pure q
  | _ => exact wpAny_pure q
theorem WS_For {y : Str} {py : Pos} {iter : Expr} {body : List Stmt} {pos : Pos} {Q : AFlow → Loc → AHeap → Prop}
    (h : WE F c iter (fun it H => ∃ xs S H', IterOf H it xs S ∧ H'.Sub H ∧ WLoop F c (asgN y) body S Q xs m H') X m H)
    (hs : ∀ x, foldedSetIterable iter c.env x = pure x := by intro _; rfl) : WS F c (.For (.Name y py) iter body [] pos) Q X m H := WS_ForA asgN_ok h hs
theorem WS_ForT {names : List (Str × Pos)} {elts : List Expr} {k : Nat} {py : Pos} {iter : Expr} {body : List Stmt} {pos : Pos} {Q : AFlow → Loc → AHeap → Prop} (he : elts = names.map fun n => Expr.Name n.1 n.2)
    (h : WE F c iter (fun it H => ∃ xs S H', IterOf H it xs S ∧ H'.Sub H ∧ WLoop F c (asgT (names.map (·.1))) body S Q xs m H') X m H)
    (hs : ∀ x, foldedSetIterable iter c.env x = pure x := by intro _; rfl) : WS F c (.For (.Tuple elts k py) iter body [] pos) Q X m H := WS_ForA (asgT_ok he) h hs
/-- a while, by turns counted down -/
theorem WS_While {test : Expr} {body : List Stmt} {pos : Pos} {Q : AFlow → Loc → AHeap → Prop} (I : Nat → Loc → AHeap → Prop) (n : Nat) (h0 : I n m H)
    (turn : ∀ n m H, I n m H → WB F c test (fun b H => if b = true then WSs F c body (loopQ (fun m H => ∃ k, k < n ∧ I k m H) Q) noX m H else Q .next m H) noX m H) : WS F c (.While test body [] pos) Q X m H := .mk fun h₀ s x => by
  show wpC _ _ (exec (.While test body [] pos) c.env) _ _ _
  rw [exec_While]
  refine wpC_at (wpC_runOwn ?_)
  have hm : c.A.mark none = c.A := rfl
  rw [hm]
  refine codeC_loop rfl rfl (fun n s => ∃ m H, St F c h₀ m H s ∧ I n m H) ?_ n ⟨m, H, x, h0⟩
  rintro n s ⟨m, H, x, hI⟩
  show wpC _ c.A ((whileTurn test body [] c.env).onRaise (fun x => do noteFrame x c.env; theTreesLotGoes x)) _ _ s
  refine wpC_noted ?_
  simp only [whileTurn]
  refine wpC_bind (wpC_mono ((turn n m H hI).run h₀ s x) (fun b s2 ⟨H2, x2, q2⟩ => ?_) fun _ _ z => z.elim)
  cases b with
  | false =>
    simp only [Bool.false_eq_true, if_false] at q2 ⊢
    exact wpC_bind (wpC_pure (wpC_pure ⟨.next, m, H2, x2, rfl, q2⟩))
  | true =>
    simp only [if_true] at q2 ⊢
    refine wpC_bind (wpC_mono (q2.run h₀ s2 x2) (fun f s3 ⟨af, m3, H3, x3, i3, q3⟩ => ?_) fun _ _ z => z.elim)
    cases af with
    | next => cases i3; obtain ⟨k, hk, hI'⟩ := q3; exact wpC_pure (.inl ⟨rfl, k, hk, m3, H3, x3, hI'⟩)
    | cont => cases i3; obtain ⟨k, hk, hI'⟩ := q3; exact wpC_pure (.inl ⟨rfl, k, hk, m3, H3, x3, hI'⟩)
    | brk => cases i3; exact wpC_pure ⟨.next, m3, H3, x3, rfl, q3⟩
    | ret v => obtain ⟨u, rfl, i⟩ := i3; exact wpC_pure ⟨.ret v, m3, H3, x3, ⟨u, rfl, i⟩, q3⟩
end
end Mine
end
section
open PySem PySem.W PyProof.Rows
set_option Elab.async false
set_option linter.unusedVariables false
namespace Mine
open Builtin Builtin.Bytes
theorem any_clean {f : Code × Pos → Bool} (hf : ∀ c p, okCode c = true → f (c, p) = false) : ∀ l : List (Code × Pos), Clean l → l.any f = false
  | [], _ => rfl
  | (c, p) :: l, hc => by
    rw [List.any_cons, any_clean hf l fun y hy => hc y (List.mem_cons_of_mem _ hy), hf c p (hc _ List.mem_cons_self)]; rfl
theorem not_holds {id : String} (h : okCode (.builtin id ar) = true) : decodersThatHold.contains id = false := by
  simp only [okCode, holdIds, Bool.not_eq_true'] at h
  cases q : decodersThatHold.contains id with
  | false => rfl
  | true =>
    rw [List.contains_iff_mem] at q
    have : (decodersThatHold ++ ["bytearray.__contains__", "bytearray.__mod__", "bytearray.__rmod__", "_struct.pack_into.held", "bytearray.find.held"]).contains id = true := by
      rw [List.contains_iff_mem]; exact List.mem_append_left _ q
    rw [this] at h; cases h
theorem wpC_exported {M : Model} {A : Around} {E : Value → Shared → Prop} {s : Shared} {self : Value} {Q : Bool → Shared → Prop} (h : Q false s) : wpC M A (exported self) Q E s := fun Γ p hΓ h1 h2 => by
  show Q (((Γ.code, p) :: Γ.below).any _) s
  rw [any_clean (fun c p hc => ?_) _ (fun x hx => by
    rcases List.mem_cons.mp hx with rfl | hx
    · exact h1
    · exact h2 x hx)]
  · exact h
  · cases c with
    | builtin id args =>
      obtain ⟨pos, kw⟩ := args
      have hn := not_holds hc
      have n1 : id ≠ "bytearray.__contains__" := fun e => by subst e; exact absurd hc (by show ¬ ((!holdIds.contains "bytearray.__contains__") = true); decide +kernel)
      have n2 : id ≠ "bytearray.__mod__" := fun e => by subst e; exact absurd hc (by show ¬ ((!holdIds.contains "bytearray.__mod__") = true); decide +kernel)
      have n3 : id ≠ "bytearray.__rmod__" := fun e => by subst e; exact absurd hc (by show ¬ ((!holdIds.contains "bytearray.__rmod__") = true); decide +kernel)
      have n4 : id ≠ "_struct.pack_into.held" := fun e => by subst e; exact absurd hc (by show ¬ ((!holdIds.contains "_struct.pack_into.held") = true); decide +kernel)
      have n5 : id ≠ "bytearray.find.held" := fun e => by subst e; exact absurd hc (by show ¬ ((!holdIds.contains "bytearray.find.held") = true); decide +kernel)
      delta Builtin.Bytes.exported.match_1 Builtin.Bytes.exported._sparseCasesOn_1
      dsimp only
      rw [dif_neg n1, dif_neg n2, dif_neg n3, dif_neg n4, dif_neg n5]
      cases pos with
      | nil => rfl
      | cons v r =>
        show (Builtin.Bytes.sameRef v self && decodersThatHold.contains id) = false
        rw [hn, Bool.and_false]
    | _ => rfl
section
variable {M : Model} {A : Around} {E : Value → Shared → Prop} {s : Shared} {a : Addr} {b : Array UInt8} {o : Obj}
theorem wpC_checkResize {Q : Unit → Shared → Prop} (ho : s.heap.get? a = some { cls := .type "bytearray", data := .bytearray b 0 }) (h : Q () s) : wpC M A (checkResize (.ref a)) Q E s := by
  unfold checkResize
  refine wpC_bind ?_
  unfold orM
  refine wpC_bind (wpC_exported ?_)
  unfold exportsOf
  refine wpC_bind (wpC_bind (wpC_any (wpAny_load ho ?_)))
  exact wpC_pure (wpC_pure (wpC_pure h))
theorem wpC_write {f : Array UInt8 → Array UInt8} {Q : Unit → Shared → Prop} (ho : s.heap.get? a = some { cls := .type "bytearray", data := .bytearray b 0 }) (hz : (f b).size ≤ sizeLine)
    (h : ∀ h', Heap.SameBut a s.heap h' → h'.get? a = some { cls := .type "bytearray", data := .bytearray (f b) 0 } → Q () { s with heap := h' }) : wpC M A (write (.ref a) f) Q E s := by
  show wpC M A (updateBytearray a f) Q E s
  unfold updateBytearray
  refine wpC_bind (wpC_any (wpAny_load ho ?_))
  refine wpC_bind (wpC_any (wpAny_update ho ?_))
  have g := Heap.get?_update_self (Obj.mapBytearray f) ho rfl
  refine wpC_any (wpAny_lookBehind g ?_ (h _ (Heap.SameBut.update ..) g))
  show Data.pastItsLine (.bytearray (f b) 0) = none
  unfold Data.pastItsLine
  simp only
  first | rw [if_neg (by lia)] | (simp; lia)
end
end Mine
end
section
open PySem PySem.W PyProof.Rows
set_option Elab.async false
set_option linter.unusedVariables false
set_option maxRecDepth 100000
namespace Mine
open Builtin.Bytes
theorem okBuiltin {id : String} (h : holdIds.contains id = false) (args : Args) : okCode (.builtin id args) = true := by
  show (!holdIds.contains id) = true
  rw [h]; rfl
section
variable {prog : Program} {w : World} {A : Around} {E : Value → Shared → Prop} {s : Shared} {a : Addr} {Q : Value → Shared → Prop}
theorem wpC_call_builtin {T : String} {name : Str} {id : String} {B : Builtin} {self : Value} {rest : List Value} (slot : Slot T name id) (hT : s.TypeIs self T) (entry : entryFor table id = some B) (args : argsOk id ⟨self :: rest, []⟩)
    (hok : holdIds.contains id = false)
    (h : wpC (model prog w) A.in1 (B ⟨self :: rest, []⟩) (fun fin s' => match fin with | .done f => wants Q E (.ok f) s' | .again c' => c'.quiet = true ∧ codeC (model prog w) A c' (wants Q E) s') (fun e s' => E e s') s) :
    wpC (model prog w) A (call (.builtin id) (self :: rest)) Q E s := by
  refine wpC_call (codeC_of_tree rfl ?_)
  show wpC _ A.in1 (do checkBuiltinCall id ⟨self :: rest, []⟩; again (.builtin id ⟨self :: rest, []⟩)) _ _ s
  refine wpC_bind (wpC_any (slot.check _ _ _ _ _ _ _ _ hT args (wpC_pure (And.intro (plainId_quiet slot.plain _) (codeC_of_tree (okBuiltin hok _) ?_)))))
  rw [Around.under_plainId slot.plain]
  show wpC _ _ (match entryFor table id with | some b => b ⟨self :: rest, []⟩ | none => unsupported ((withoutEnding? id "#data").getD id)) _ _ s
  rw [entry]; exact h
theorem codeC_builtin {id : String} {args : Args} {b : Builtin} {R : Result → Shared → Prop} (hb : entryFor table id = some b) (hok : holdIds.contains id = false)
    (h : wpC (model prog w) (A.under (.builtin id args)) (b args)
      (fun fin s' => match fin with | .done f => R (.ok f) s' | .again c' => c'.quiet = true ∧ codeC (model prog w) A c' R s') (fun e s' => R (.error e) s') s) :
    codeC (model prog w) A (.builtin id args) R s := by
  refine codeC_of_tree (okBuiltin hok _) ?_
  show wpC _ _ (match entryFor table id with | some b => b args | none => unsupported ((withoutEnding? id "#data").getD id)) _ _ s
  rw [hb]; exact h
end

theorem owner_barr : Manifest.owners.lookup (String.ofList ['y', 'a', 'r', 'r', 'a', 'e', 't', 'y', 'b'].reverse) = some Manifest.sig_bytearray := by kernel_rfl
theorem slot_barr_append : Slot "bytearray" "append" "bytearray.append" :=
  .of (owner := "bytearray") (n := "append") (by rw [typeLookup_type, builtinLookup_eq_fast]; kernel_rfl) (by decide +kernel) (by decide +kernel) (by decide +kernel)
    (by first | exact .inl (by decide +kernel) | exact .inr (by decide +kernel)) (by rw [isSubtype_type]; kernel_rfl)
theorem type_barr_append : typeOf (.builtin "bytearray.append") = pure (.type "method_descriptor") := by show builtinType _ = _; rw [builtinType_eq_fast]; kernel_rfl
theorem entry_barr_append : entryFor table "bytearray.append" = some Builtin.«bytearray.append» := entryFor_of_tree (by kernel_rfl)
theorem args_barr_append (a b : Value) : argsOk "bytearray.append" ⟨[a, b], []⟩ := by
  unfold argsOk; kernel_rfl
theorem slot_barr_extend : Slot "bytearray" "extend" "bytearray.extend" :=
  .of (owner := "bytearray") (n := "extend") (by rw [typeLookup_type, builtinLookup_eq_fast]; kernel_rfl) (by decide +kernel) (by decide +kernel) (by decide +kernel)
    (by first | exact .inl (by decide +kernel) | exact .inr (by decide +kernel)) (by rw [isSubtype_type]; kernel_rfl)
theorem type_barr_extend : typeOf (.builtin "bytearray.extend") = pure (.type "method_descriptor") := by show builtinType _ = _; rw [builtinType_eq_fast]; kernel_rfl
theorem entry_barr_extend : entryFor table "bytearray.extend" = some Builtin.«bytearray.extend» := entryFor_of_tree (by kernel_rfl)
theorem args_barr_extend (a b : Value) : argsOk "bytearray.extend" ⟨[a, b], []⟩ := by
  unfold argsOk; kernel_rfl
theorem slot_barr_len : Slot "bytearray" "__len__" "bytearray.__len__" :=
  .of (owner := "bytearray") (n := "__len__") (by rw [typeLookup_type, builtinLookup_eq_fast]; kernel_rfl) (by decide +kernel) (by decide +kernel) (by decide +kernel)
    (by first | exact .inl (by decide +kernel) | exact .inr (by decide +kernel)) (by rw [isSubtype_type]; kernel_rfl)
theorem entry_barr_len : entryFor table "bytearray.__len__" = some Builtin.«bytearray.__len__» := entryFor_of_tree (by kernel_rfl)
theorem args_barr_len (a : Value) : argsOk "bytearray.__len__" ⟨[a], []⟩ := by
  unfold argsOk; kernel_rfl
theorem plainAttrs_barr : PlainAttrs "bytearray" :=
  ⟨⟨"bytearray.__getattribute__", by rw [typeLookup_type, builtinLookup_eq_fast]; kernel_rfl, by decide +kernel⟩, by rw [typeLookup_type, builtinLookup_eq_fast]; kernel_rfl⟩
end Mine
end
section
open PySem PySem.W PyProof.Rows
set_option Elab.async false
set_option linter.unusedVariables false
set_option maxRecDepth 100000
namespace Mine
open Builtin.Bytes
section
variable {prog : Program} {w : World} {A : Around} {E : Value → Shared → Prop} {s : Shared} {a : Addr} {b : Array UInt8} {Q : Value → Shared → Prop}
theorem byteValue_int {M : Model} {n : Int} {t : Tok} {Q : UInt8 → Shared → Prop} (h0 : 0 ≤ n) (h1 : n < 256) (h : Q n.toNat.toUInt8 s) : wpC M A (byteValue (.int n t)) Q E s := by
  show wpC M A (if (decide (n < 0) || decide (n ≥ 256)) = true then _ else pure n.toNat.toUInt8) Q E s
  rw [if_neg (by simp; lia)]
  exact wpC_pure h
theorem wpC_barr_append {n : Int} {t : Tok} (ho : s.heap.get? a = some { cls := .type "bytearray", data := .bytearray b 0 }) (h0 : 0 ≤ n) (h1 : n < 256) (hz : b.size + 1 ≤ sizeLine)
    (h : ∀ h', Heap.SameBut a s.heap h' → h'.get? a = some { cls := .type "bytearray", data := .bytearray (b.push n.toNat.toUInt8) 0 } → Q .none { s with heap := h' }) :
    wpC (model prog w) A (call (.builtin "bytearray.append") [.ref a, .int n t]) Q E s := by
  refine wpC_call_builtin slot_barr_append ⟨_, ho, rfl⟩ entry_barr_append (args_barr_append _ _) (by decide +kernel) ?_
  unfold Builtin.«bytearray.append»
  refine wpC_bind (m := selfAndOne "bytearray.append" _) (wpC_pure ?_)
  refine wpC_bind (byteValue_int h0 h1 ?_)
  refine wpC_bind (wpC_checkResize ho ?_)
  refine wpC_bind (wpC_write ho (by rw [Array.size_push]; exact hz) fun h' sb g => ?_)
  exact wpC_pure (h h' sb g)
theorem payload_barr {M : Model} {Q : Array UInt8 → Shared → Prop} (ho : s.heap.get? a = some { cls := .type "bytearray", data := .bytearray b 0 }) (h : Q b s) : wpC M A (payload (.ref a)) Q E s := by
  unfold payload payload?
  exact wpC_bind (wpC_bind (wpC_any (wpAny_load ho (wpC_pure (wpC_pure h)))))
theorem take_eq {id : String} {x : Array UInt8} {t : Tok} : takeBuffer? id (.bytes x t) 0 = pure (some (x, none)) := by
  unfold takeBuffer?
  rw [KBy.special_eq KBy.look_buffer, KBy.own_buffer]
  have e : ((0 : Int) == fullReadOnly) = false := by decide +kernel
  simp only [e, KBy.buffer_eq]
  kernel_rfl
theorem takeQuiet_eq {id : String} {x : Array UInt8} {t : Tok} : takeBufferQuiet? id (.bytes x t) 0 = pure (some (x, none)) := by
  unfold takeBufferQuiet?
  rw [take_eq]
  rfl
theorem wpC_barr_extend {x : Array UInt8} {t : Tok} (ho : s.heap.get? a = some { cls := .type "bytearray", data := .bytearray b 0 }) (hz : b.size + x.size ≤ sizeLine)
    (h : ∀ h', Heap.SameBut a s.heap h' → h'.get? a = some { cls := .type "bytearray", data := .bytearray (b ++ x) 0 } → Q .none { s with heap := h' }) :
    wpC (model prog w) A (call (.builtin "bytearray.extend") [.ref a, .bytes x t]) Q E s := by
  refine wpC_call_builtin slot_barr_extend ⟨_, ho, rfl⟩ entry_barr_extend (args_barr_extend _ _) (by decide +kernel) ?_
  unfold Builtin.«bytearray.extend»
  refine wpC_bind (m := selfAndOne "bytearray.extend" _) (wpC_pure ?_)
  dsimp only
  rw [KBy.special_eq KBy.look_buffer]
  refine wpC_bind (wpC_pure ?_)
  rw [if_pos (show (some (Value.builtin "bytes.__buffer__")).isSome = true from rfl)]
  refine wpC_bind (wpC_any (wpAny_rule ?_))
  refine wpC_bind (payload_barr ho ?_)
  rw [takeQuiet_eq]
  refine wpC_bind (wpC_pure ?_)
  dsimp only
  rw [if_pos (show (none : Option Value).isNone = true from rfl)]
  have fin : wpC (model prog w) A.in1 (write (.ref a) (· ++ x) >>= fun _ => ret .none) (fun fin s' => match fin with | .done f => wants Q E (.ok f) s' | .again c' => c'.quiet = true ∧ codeC (model prog w) A c' (wants Q E) s') (fun e s' => E e s') s :=
    wpC_bind (wpC_write ho (by rw [Array.size_append]; exact hz) fun h' sb g => wpC_pure (h h' sb g))
  by_cases hx : x.isEmpty = true
  · show wpC _ _ (if (!x.isEmpty) = true then _ else _) _ _ _
    rw [if_neg (by rw [hx]; simp)]
    exact fin
  · show wpC _ _ (if (!x.isEmpty) = true then _ else _) _ _ _
    rw [if_pos (by simp [hx])]
    exact wpC_bind (wpC_checkResize ho fin)
end
end Mine
end
section
open PySem PySem.W PyProof.Rows
set_option Elab.async false
set_option linter.unusedVariables false
set_option maxRecDepth 100000
namespace Mine
open Builtin.Bytes
theorem slot_barr_init : Slot "bytearray" "__init__" "bytearray.__init__" :=
  .of (owner := "bytearray") (n := "__init__") (by rw [typeLookup_type, builtinLookup_eq_fast]; kernel_rfl) (by decide +kernel) (by decide +kernel) (by decide +kernel)
    (by first | exact .inl (by decide +kernel) | exact .inr (by decide +kernel)) (by rw [isSubtype_type]; kernel_rfl)
theorem entry_barr_init : entryFor table "bytearray.__init__" = some Builtin.«bytearray.__init__» := entryFor_of_tree (by kernel_rfl)
theorem args_barr_init (a : Value) : argsOk "bytearray.__init__" ⟨[a], []⟩ := by
  unfold argsOk; kernel_rfl
theorem mro_barr : mroOf (.type "bytearray") = pure [.type "bytearray", .type "object"] := by rw [mroOf_type]; kernel_rfl
theorem look_barr_new : typeLookup (.type "bytearray") "__new__" = pure (some (.builtin "bytearray.__new__")) := by rw [typeLookup_type, builtinLookup_eq_fast]; kernel_rfl
theorem made_barr : Bind.madeBy (.type "bytearray") = pure (some "bytearray.__new__") := madeBy_type mro_barr look_barr_new (by decide +kernel)
theorem typeCall_barr : checkTypeCall "bytearray" ⟨[], []⟩ = pure () := by kernel_rfl
theorem newCall_barr : checkBuiltinCall "bytearray.__new__" ⟨[.type "bytearray"], []⟩ = pure () := by kernel_rfl
theorem sub_barr : isSubtype (.type "bytearray") (.type "bytearray") = pure true := by rw [isSubtype_type]; kernel_rfl
theorem plain_barr_new : plainId "bytearray.__new__" = true := by decide +kernel
theorem entry_barr_new : entryFor table "bytearray.__new__" = some Builtin.«list.__new__» := entryFor_alias (id' := "list.__new__") (by rw [fastTable_eq_tree]; kernel_rfl) rfl (by decide +kernel) (by rw [fastTable_eq_tree]; kernel_rfl)
theorem owner_barr_new : ("bytearray.__new__".splitOn ".__new__").headD "" = "bytearray" := by rw [PySem.W.split_bytearray]; rfl
theorem look_barr_release : typeLookup (.type "bytearray") "__release_buffer__" = pure (some (.builtin "bytearray.__release_buffer__")) := by rw [typeLookup_type, builtinLookup_eq_fast]; kernel_rfl
theorem look_barr_buffer : typeLookup (.type "bytearray") "__buffer__" = pure (some (.builtin "bytearray.__buffer__")) := by rw [typeLookup_type, builtinLookup_eq_fast]; kernel_rfl
section
variable {prog : Program} {w : World} {A : Around} {E : Value → Shared → Prop} {s : Shared} {a : Addr} {b : Array UInt8} {Q : Value → Shared → Prop}
theorem code_barr_new {Q₁ : Value → Shared → Prop}
    (h : Q₁ (.ref s.heap.objs.size) { s with heap := s.heap.push { cls := .type "bytearray", data := .bytearray #[] } }) :
    codeAny (model prog w) A (.call (.builtin "bytearray.__new__") ⟨[.type "bytearray"], []⟩) (wants Q₁ E) s := by
  refine codeAny_of_tree ?_
  show wpAny _ A.in1 (do checkBuiltinCall "bytearray.__new__" ⟨[.type "bytearray"], []⟩; again (.builtin "bytearray.__new__" ⟨[.type "bytearray"], []⟩)) _ _ s
  refine wpAny_bind (wpAny_of_eq newCall_barr (wpAny_pure ⟨plainId_quiet plain_barr_new _, codeAny_builtin_stack entry_barr_new rfl fun p st => ?_⟩))
  rw [Around.under_plainId plain_barr_new _]
  have hsub := sub_barr
  have hown := owner_barr_new
  obtain ⟨hp, g, d, tk, os⟩ := s
  simp only [hown]
  wp_walk
  exact h
theorem wpAny_ownRelease (hT : s.TypeIs (.ref a) "bytearray") {Q : Bool → Shared → Prop} (h : Q false s) : wpAny (model prog w) A (ownRelease (.ref a)) Q E s := by
  have key : ∀ x : String, x = "bytearray" → wpAny (model prog w) A (isInstance (.ref a) (.type x)) (fun b s' => wpAny (model prog w) A (pure (!b)) Q E s') E s := fun x hx => by
    rw [hx]; exact wpAny_isInstance hT sub_barr (wpAny_pure h)
  unfold ownRelease slotIsOwn
  refine wpAny_bind (wpAny_bind (wpAny_specialOf hT look_barr_release ?_))
  dsimp only
  split
  · rename_i hx
    exact absurd hx (by decide +kernel)
  · exact key _ (by decide +kernel)
end
end Mine
end
section
open PySem PySem.W PyProof.Rows
set_option Elab.async false
set_option linter.unusedVariables false
set_option maxRecDepth 100000
namespace Mine
open Builtin.Bytes
section
variable {prog : Program} {w : World} {A : Around} {E : Value → Shared → Prop} {s : Shared} {a : Addr} {b : Array UInt8} {Q : Value → Shared → Prop}

theorem wpC_ite_false {α : Type} {M : Model} {c : Bool} {x y : Sem α} {Q : α → Shared → Prop} (hc : c = false) (h : wpC M A y Q E s) : wpC M A (if c = true then x else y) Q E s := by
  subst hc; exact h
theorem wpC_ite_true {α : Type} {M : Model} {c : Bool} {x y : Sem α} {Q : α → Shared → Prop} (hc : c = true) (h : wpC M A x Q E s) : wpC M A (if c = true then x else y) Q E s := by
  subst hc; exact h
theorem wpC_barr_init (ho : s.heap.get? a = some { cls := .type "bytearray", data := .bytearray b 0 })
    (h : ∀ h', Heap.SameBut a s.heap h' → h'.get? a = some { cls := .type "bytearray", data := .bytearray #[] 0 } → Q .none { s with heap := h' }) :
    wpC (model prog w) A (call (.builtin "bytearray.__init__") [.ref a]) Q E s := by
  refine wpC_call_builtin slot_barr_init ⟨_, ho, rfl⟩ entry_barr_init (args_barr_init _) (by decide +kernel) ?_
  unfold Builtin.«bytearray.__init__»
  refine wpC_bind (wpC_any (wpAny_ownRelease ⟨_, ho, rfl⟩ ?_))
  refine wpC_bind (m := bindOptional "bytearray.__init__" "bytearray" ["source", "encoding", "errors"] [] []) (wpC_pure ?_)
  dsimp only
  refine wpC_bind (m := checkCodecArg _ _ _ _) (wpC_pure ?_)
  refine wpC_bind (m := checkCodecArg _ _ _ _) (wpC_pure ?_)
  refine wpC_bind ?_
  unfold orM
  refine wpC_bind (wpC_exported ?_)
  unfold exportsOf
  refine wpC_bind (wpC_bind (wpC_any (wpAny_load ho ?_)))
  refine wpC_pure (wpC_pure ?_)
  refine wpC_ite_false rfl ?_
  refine wpC_bind (wpC_write ho (Nat.zero_le _) fun h' sb g => ?_)
  show wpC _ _ (ret .none) _ _ _
  exact wpC_pure (h h' sb g)
theorem wpC_callSpecial {M : Model} {self : Value} {T : String} {name : Str} {id : String} {args : List Value} {Q : Option Value → Shared → Prop} (hT : s.TypeIs self T) (h : Slot T name id)
    (hc : wpC M A (call (.builtin id) (self :: args)) (fun v => Q (some v)) E s) : wpC M A (callSpecial? self name args) Q E s := by
  simp only [callSpecial?]
  refine wpC_bind (wpC_any (wpAny_specialOf hT h.lookup ?_))
  simp only [h.bind]
  exact wpC_holding (wpC_bind (wpC_pure (wpC_bind (wpC_mono hc (fun v s' h' => wpC_pure h') fun _ _ h' => h'))))
theorem wpC_barr_new (h : ∀ h', (∀ b o, s.heap.get? b = some o → h'.get? b = some o) → h'.get? s.heap.objs.size = some { cls := .type "bytearray", data := .bytearray #[] 0 } → Q (.ref s.heap.objs.size) { s with heap := h' }) :
    wpC (model prog w) A (call (.type "bytearray") []) Q E s := by
  refine wpC_call (codeC_of_tree rfl ?_)
  show wpC _ _ (callAny (.type "bytearray") _) _ _ _
  refine wpC_pure ⟨Code.quiet_builtin _ (by decide +kernel), codeC_builtin F.entry_type_call (by decide +kernel) ?_⟩
  rw [Around.under_plain (weight_type_call_type "bytearray" [] []) rfl]
  unfold Builtin.«type.__call__»
  dsimp only
  refine wpC_ite_false rfl ?_
  refine wpC_ite_false (by decide +kernel) ?_
  refine wpC_bind (wpC_any (wpAny_of_eq typeCall_barr ?_))
  refine wpC_bind (wpC_any (wpAny_of_eq mro_barr ?_))
  refine wpC_ite_false rfl ?_
  refine wpC_bind (wpC_any (wpAny_of_eq made_barr ?_))
  refine wpC_bind (wpC_pure ?_)
  refine wpC_bind (wpC_holding (wpC_any (wpAny_call (code_barr_new ?_))))
  have hg := Heap.get?_push_size (o := { cls := .type "bytearray", data := .bytearray #[] }) s.heap rfl
  have hT : Shared.TypeIs { s with heap := s.heap.push { cls := .type "bytearray", data := .bytearray #[] } } (.ref s.heap.objs.size) "bytearray" := ⟨_, hg, rfl⟩
  refine wpC_bind (wpC_any (wpAny_isInstance hT sub_barr ?_))
  refine wpC_ite_false rfl ?_
  refine wpC_bind (wpC_holding (wpC_callSpecial hT slot_barr_init ?_))
  refine wpC_barr_init hg fun h' sb g => ?_
  refine wpC_ite_false rfl ?_
  exact wpC_pure (h h' (fun b o e => sb.extBut b o (Nat.ne_of_lt (Heap.lt_size e)) (Heap.get?_push_of_some _ e)) g)
end
end Mine
end
section
open PySem PySem.W PyProof.Rows
set_option Elab.async false
set_option linter.unusedVariables false
set_option maxRecDepth 100000
namespace Mine
open Builtin.Bytes
section
variable {prog : Program} {w : World} {A : Around} {E : Value → Shared → Prop} {s : Shared} {a : Addr} {b : Array UInt8} {t : Tok} {Q : Value → Shared → Prop}
theorem meets_barr_len (a : Addr) (b : Array UInt8) :
    Meets (Builtin.«bytearray.__len__» ⟨[.ref a], []⟩) (fun _ R s => s.heap.get? a = some { cls := .type "bytearray", data := .bytearray b 0 } ∧ R (.ok (.ret (.int b.size s.toks))) { s with toks := s.toks + 1 }) := by
  intro prog w A R s ⟨ho, h⟩
  show wpAny _ _ (payload (.ref a) >>= fun p => retInt p.size) _ _ s
  unfold payload payload?
  refine wpAny_bind (wpAny_bind (wpAny_bind (wpAny_load ho ?_)))
  exact wpAny_pure (wpAny_pure (wpAny_bind (wpAny_mkInt (wpAny_pure h))))
theorem call_len_barr (ho : s.heap.get? a = some { cls := .type "bytearray", data := .bytearray b 0 }) (hz : b.size ≤ sizeLine) (h : Q (.int b.size (s.toks + 1)) { s with toks := s.toks + 1 + 1 }) :
    wpAny (model prog w) A (call (.builtin "len") [.ref a]) Q E s := by
  rw [sizeLine_eq] at hz
  exact call_len_meets ⟨_, ho, rfl⟩ slot_barr_len entry_barr_len (args_barr_len _) (meets_barr_len a b) (by lia) (by lia) (fun _ hq => ⟨ho, hq⟩) h

theorem hint_bytes {Q : Bool → Shared → Prop} (h : Q false s) : wpAny (model prog w) A (Builtin.List.listLengthHint (.bytes b t)) Q E s := by
  have hT := PySem.W.typeIs_bytes s b t
  unfold Builtin.List.listLengthHint
  refine wpAny_bind (wpAny_specialOf hT FB.slot_bytes_len.lookup ?_)
  generalize hid : ("bytes.__len__" : String) = id0
  wp_delta
  rw [show splitId id0 = some ("bytes", "__len__") from by subst hid; decide +kernel]
  subst hid
  refine wpAny_bind (wpAny_isInstance (T := "bytes") (b := true) hT PySem.F.bm_sub ?_)
  refine wpAny_ite_split (fun hab => absurd hab (by decide)) (fun _ => ?_)
  refine wpAny_ite_split (fun _ => ?_) (fun hab => absurd (by decide +kernel) hab)
  refine wpAny_bind (wpAny_typeOf hT ?_)
  exact wpAny_pure h
theorem call_list_bytes (hh : A.handled = none) (hz : b.size ≤ sizeLine)
    (hQ : ∀ h' tk acc' c', (∀ x o, s.heap.get? x = some o → h'.get? x = some o) → h'.get? s.heap.objs.size = some { cls := .type "list", dict := none, data := .seq acc' c', slots := #[] } →
      acc'.size = b.size → (∀ (j : Nat) (v : Value), acc'[j]? = some v → ∃ c u, b[j]? = some c ∧ v = Value.int (c.toNat : Int) u) → Q (.ref s.heap.objs.size) { s with heap := h', toks := tk }) :
    wpAny (model prog w) A (call (.type "list") [.bytes b t]) Q E s := by
  refine callType_codes (Q₁ := fun obj s₁ => obj = .ref s.heap.objs.size ∧ s₁ = { s with heap := s.heap.push { cls := .type "list", data := .seq #[] } }) PySem.F.called_list (PySem.F.typeCall_list_1 _) PySem.F.entry_list_init
    (code_list_new _ ⟨rfl, rfl⟩) fun obj s₁ h₁ => ?_
  obtain ⟨rfl, rfl⟩ := h₁
  have hS : (s.heap.push { cls := .type "list", data := .seq #[] }).get? s.heap.objs.size = some { cls := .type "list", data := .seq #[] } := Heap.get?_push_size _ rfl
  refine ⟨⟨_, hS, rfl⟩, PySem.F.args_list_init_2 _ _, ?_⟩
  show wpAny _ _ (do let old ← Builtin.List.listItems (.ref s.heap.objs.size); Builtin.List.listUpdate (.ref s.heap.objs.size) (fun _ => #[]); letGo old.toList.reverse; Builtin.List.listExtendWith (.ref s.heap.objs.size) (.bytes b t) .none) _ _ _
  refine wpAny_bind ?_
  unfold Builtin.List.listItems
  refine wpAny_bind (wpAny_seqItems hS rfl (wpAny_pure ?_))
  show wpAny _ _ (updateSeq s.heap.objs.size (fun _ => #[]) >>= fun _ => letGo (#[] : Array Value).toList.reverse >>= fun _ => Builtin.List.listExtendWith (.ref s.heap.objs.size) (.bytes b t) .none) _ _ _
  refine wpAny_bind (wpAny_updateSeq hS rfl ?_)
  have hS₂ := Heap.get?_update_self (Obj.mapSeq (fun _ => (#[] : Array Value))) hS rfl
  refine wpAny_bind (wpAny_letGo ?_)
  unfold Builtin.List.listExtendWith
  refine wpAny_bind (wpAny_typeOf (PySem.W.typeIs_bytes _ b t) ?_)
  refine wpAny_ite_split (fun hab => absurd (show (false || Value.type "bytes" == Value.type "list" || Value.type "bytes" == Value.type "tuple") = true from hab) (by decide)) (fun _ => ?_)
  refine wpAny_bind (KBw.pyIter_bytes ?_)
  refine wpAny_bind (wpAny_holding (hint_bytes ?_))
  refine wpAny_ite_split (fun hab => absurd hab (by decide +kernel)) (fun _ => ?_)
  refine wpAny_pure ⟨plainId_quiet PySem.F.plain_extend_loop _, ?_⟩
  have W := KBw.walks (prog := prog) (w := w) (A := A.in1.in1) hh
  have hsz : ((s.heap.push { cls := .type "list", data := .seq #[] }).update s.heap.objs.size (Obj.mapSeq fun _ => (#[] : Array Value))).objs.size = s.heap.objs.size + 1 := by
    rw [Heap.size_after_update, Heap.size_push]
  refine codeAny_extend_loopS (A := A.in1) (KBw.walks (prog := prog) (w := w) (A := A.in1.in1) hh ((s.heap.push { cls := .type "list", data := .seq #[] }).update s.heap.objs.size (Obj.mapSeq fun _ => (#[] : Array Value))).objs.size b t).toS hz s.heap.objs.size (by rw [hsz]; simp) .none b.size 0 _ #[] _ rfl (Nat.zero_le _)
    ⟨_, Heap.get?_push_size _ rfl, rfl, rfl⟩ (Heap.get?_push_of_some _ hS₂) (ItemsOf.nil _) fun s' acc' c' hm hS' hacc => ?_
  refine ⟨rfl, ?_⟩
  have e := Moved.eq_with hm
  have r := hQ s'.heap s'.toks acc' c' (fun x o hx => hm.heap x o (fun hmem => ?_) ?_) hS' hacc.1 hacc.2
  · first
      | (rw [e]; exact r)
      | exact e ▸ r
  · have := Heap.lt_size hx
    rcases List.mem_cons.mp hmem with q | q
    · exact Nat.lt_irrefl _ (q ▸ this)
    · have q' := List.mem_singleton.mp q
      rw [hsz] at q'
      rw [q'] at this
      exact Nat.not_succ_lt_self this
  · have hne : s.heap.objs.size ≠ x := Nat.ne_of_gt (Heap.lt_size hx)
    exact Heap.get?_push_of_some _ ((Heap.get?_update_other _ _ hne).trans (Heap.get?_push_of_some _ hx))

theorem no_bytes_barr : typeLookup (.type "bytearray") "__bytes__" = pure none := by rw [typeLookup_type, builtinLookup_eq_fast]; kernel_rfl
theorem no_index_barr : typeLookup (.type "bytearray") "__index__" = pure none := by rw [typeLookup_type, builtinLookup_eq_fast]; kernel_rfl
theorem own_buffer_barr {Q : Bool → Shared → Prop} (hT : s.TypeIs (.ref a) "bytearray") (h : Q true s) : wpAny (model prog w) A (slotIsOwn (.ref a) "__buffer__") Q E s := by
  have key : ∀ x : String, x = "bytearray" → wpAny (model prog w) A (isInstance (.ref a) (.type x)) Q E s := fun x hx => by
    rw [hx]; exact wpAny_isInstance hT sub_barr h
  unfold slotIsOwn
  refine wpAny_bind (wpAny_specialOf hT look_barr_buffer ?_)
  (try dsimp only)
  split
  · rename_i hx
    exact absurd hx (by decide +kernel)
  · exact key _ (by decide +kernel)
theorem buffer_barr {id : String} {full : Bool} {Q : Option (Array UInt8) → Shared → Prop} (ho : s.heap.get? a = some { cls := .type "bytearray", data := .bytearray b 0 }) (h : Q (some b) s) : wpAny (model prog w) A (buffer? id (.ref a) full) Q E s := by
  have hT : s.TypeIs (.ref a) "bytearray" := ⟨_, ho, rfl⟩
  unfold buffer?
  refine wpAny_bind (wpAny_specialOf hT look_barr_buffer ?_)
  (try dsimp only)
  refine wpAny_bind (own_buffer_barr hT ?_)
  refine bm_if_false rfl ?_
  refine wpAny_bind (wpAny_specialOf hT look_barr_buffer ?_)
  (try dsimp only)
  refine wpAny_bind (wpAny_ownRelease hT ?_)
  refine bm_if_false rfl ?_
  unfold payload payload?
  refine wpAny_bind (wpAny_bind (wpAny_bind (wpAny_load ho ?_)))
  exact wpAny_pure (wpAny_pure (wpAny_pure h))
theorem call_bytes_barr (ho : s.heap.get? a = some { cls := .type "bytearray", data := .bytearray b 0 }) (hz : b.size ≤ sizeLine) (h : ∀ t k, Q (.bytes b t) { s with toks := k }) :
    wpAny (model prog w) A (call (.type "bytes") [.ref a]) Q E s := by
  refine callType_codes (Q₁ := fun obj s₁ => s₁.TypeIs obj "bytes" ∧ Q obj s₁) PySem.F.bm_called (PySem.F.bm_typeCall _) PySem.F.entry_object_init ?_ fun obj s₁ h₁ => ?_
  · refine codeAny_of_tree ?_
    show wpAny _ A.in1.in1 (do checkBuiltinCall "bytes.__new__" ⟨[.type "bytes", .ref a], []⟩; again (.builtin "bytes.__new__" ⟨[.type "bytes", .ref a], []⟩)) _ _ s
    refine wpAny_bind (wpAny_of_eq (PySem.F.bm_newCall _) (wpAny_pure ⟨plainId_quiet PySem.F.bm_plain _, codeAny_builtin PySem.F.bm_entry ?_⟩))
    rw [Around.under_plainId PySem.F.bm_plain _]
    have hT : s.TypeIs (.ref a) "bytearray" := ⟨_, ho, rfl⟩
    unfold Builtin.«bytes.__new__»
    refine wpAny_bind (wpAny_of_eq (a := true) rfl ?_)
    refine bm_if_false rfl ?_
    refine wpAny_bind (wpAny_of_eq PySem.F.bm_sub ?_)
    refine bm_if_false rfl ?_
    refine wpAny_bind (wpAny_of_eq (PySem.F.bm_bind _) ?_)
    refine wpAny_bind (wpAny_of_eq (a := ()) rfl ?_)
    refine wpAny_bind (wpAny_of_eq (a := ()) rfl ?_)
    refine bm_if_false rfl ?_
    refine wpAny_bind (wpAny_specialOf hT no_bytes_barr ?_)
    refine wpAny_bind (wpAny_bind ?_)
    show wpAny _ _ (load a >>= _) _ _ _
    refine wpAny_bind (wpAny_load ho ?_)
    (try dsimp only)
    refine wpAny_pure (wpAny_pure ?_)
    refine bm_if_false rfl ?_
    refine wpAny_bind (wpAny_specialOf hT no_index_barr ?_)
    refine bm_if_true rfl ?_
    first
      | show wpAny _ _ (buffer? "bytes.__new__" (.ref a) true >>= _) _ _ _
      | (refine wpAny_bind ?_; show wpAny _ _ (buffer? "bytes.__new__" (.ref a) true >>= _) _ _ _)
    refine wpAny_bind (buffer_barr ho ?_)
    (try dsimp only)
    refine wpAny_bind (wpAny_rule ?_)
    refine wpAny_bind ?_
    unfold mkBytes
    rw [if_neg (Nat.not_lt.mpr hz)]
    refine wpAny_bind (wpAny_fresh (wpAny_pure ?_))
    first
      | exact wpAny_pure ⟨PySem.W.typeIs_bytes _ _ _, h _ _⟩
      | exact wpAny_pure (wpAny_pure ⟨PySem.W.typeIs_bytes _ _ _, h _ _⟩)
      | (show wpAny _ _ (if (Value.type "bytes" == Value.type "bytes") = true then _ else _) _ _ _
         refine bm_if_true rfl ?_
         first
           | exact wpAny_pure ⟨PySem.W.typeIs_bytes _ _ _, h _ _⟩
           | exact wpAny_bind (wpAny_pure (wpAny_pure ⟨PySem.W.typeIs_bytes _ _ _, h _ _⟩)))
  · exact ⟨h₁.1, PySem.F.args_object_init_2 obj _, object_init_meets PySem.F.bm_called.init.lookup PySem.F.bm_called.made (by decide) prog w A.in1 _ s₁ ⟨h₁.1, rfl, h₁.2⟩⟩
end
end Mine
end
section
open PySem PySem.W PyProof.Rows
set_option Elab.async false
set_option linter.unusedVariables false
set_option maxRecDepth 100000
namespace Mine
open Builtin.Bytes
theorem look_bytes_bytes : typeLookup (.type "bytes") "__bytes__" = pure (some (.builtin "bytes.__bytes__")) := by rw [typeLookup_type, builtinLookup_eq_fast]; kernel_rfl
section
variable {prog : Program} {w : World} {A : Around} {E : Value → Shared → Prop} {s : Shared} {b : Array UInt8} {t : Tok} {Q : Value → Shared → Prop}
theorem call_bytes_bytes (h : Q (.bytes b t) s) :
    wpAny (model prog w) A (call (.type "bytes") [.bytes b t]) Q E s := by
  refine callType_codes (Q₁ := fun obj s₁ => s₁.TypeIs obj "bytes" ∧ Q obj s₁) PySem.F.bm_called (PySem.F.bm_typeCall _) PySem.F.entry_object_init ?_ fun obj s₁ h₁ => ?_
  · refine codeAny_of_tree ?_
    show wpAny _ A.in1.in1 (do checkBuiltinCall "bytes.__new__" ⟨[.type "bytes", .bytes b t], []⟩; again (.builtin "bytes.__new__" ⟨[.type "bytes", .bytes b t], []⟩)) _ _ s
    refine wpAny_bind (wpAny_of_eq (PySem.F.bm_newCall _) (wpAny_pure ⟨plainId_quiet PySem.F.bm_plain _, codeAny_builtin PySem.F.bm_entry ?_⟩))
    rw [Around.under_plainId PySem.F.bm_plain _]
    have hT := PySem.W.typeIs_bytes s b t
    unfold Builtin.«bytes.__new__»
    refine wpAny_bind (wpAny_of_eq (a := true) rfl ?_)
    refine bm_if_false rfl ?_
    refine wpAny_bind (wpAny_of_eq PySem.F.bm_sub ?_)
    refine bm_if_false rfl ?_
    refine wpAny_bind (wpAny_of_eq (PySem.F.bm_bind _) ?_)
    refine wpAny_bind (wpAny_of_eq (a := ()) rfl ?_)
    refine wpAny_bind (wpAny_of_eq (a := ()) rfl ?_)
    refine bm_if_false rfl ?_
    refine wpAny_bind (wpAny_specialOf hT look_bytes_bytes ?_)
    (try dsimp only)
    refine wpAny_bind (wpAny_rule ?_)
    refine wpAny_bind (wpAny_typeOf hT ?_)
    refine bm_if_true (by decide) ?_
    show wpAny _ _ (if (Value.type "bytes" == Value.type "bytes") = true then _ else _) _ _ _
    refine bm_if_true (by decide) ?_
    first
      | exact wpAny_pure ⟨hT, h⟩
      | exact wpAny_bind (wpAny_pure (wpAny_pure ⟨hT, h⟩))
  · exact ⟨h₁.1, PySem.F.args_object_init_2 obj _, object_init_meets PySem.F.bm_called.init.lookup PySem.F.bm_called.made (by decide) prog w A.in1 _ s₁ ⟨h₁.1, rfl, h₁.2⟩⟩
end
end Mine
end
section
open PySem PySem.W PyProof.Rows
set_option Elab.async false
set_option linter.unusedVariables false
set_option maxRecDepth 100000
namespace Mine
open Sem (wp)
namespace FY
theorem sub_int : isSubtype (.type "bytes") (.type "int") = pure false := by rw [isSubtype_type]; kernel_rfl
theorem sub_str : isSubtype (.type "bytes") (.type "str") = pure false := by rw [isSubtype_type]; kernel_rfl
theorem sub_bool : isSubtype (.type "bytes") (.type "bool") = pure false := by rw [isSubtype_type]; kernel_rfl
end FY
section
variable {prog : Program} {w : World} {A : Around} {E : Value → Shared → Prop} {s : Shared} {b : Array UInt8} {u : Tok}
theorem isi_false_bytes {T : String} (hne : (Value.type "bytes" == Value.type T) = false) (hty : typeOf (.type T) = pure (.type "type")) (hsub : isSubtype (.type "bytes") (.type T) = pure false) :
    Meets (Builtin.«isinstance» ⟨[.bytes b u, .type T], []⟩) (fun _ R s => R (.ok (.ret (.bool false))) { s with toks := s.toks + 1 }) :=
  fun prog w A R s hs => by
    obtain ⟨h, g, d, t, os⟩ := s
    exact isinstance_outer (isinstance_nested_false_bytes hne hty hsub hs)
variable {Q : Value → Shared → Prop}
theorem isi_bytes_int (h : Q (.bool false) { s with toks := s.toks + 1 }) : wpAny (model prog w) A (call (.builtin "isinstance") [.bytes b u, .type "int"]) Q E s :=
  call_isinstance (isi_false_bytes (by decide +kernel) PySem.F.isi_meta_int FY.sub_int) h
theorem isi_bytes_str (h : Q (.bool false) { s with toks := s.toks + 1 }) : wpAny (model prog w) A (call (.builtin "isinstance") [.bytes b u, .type "str"]) Q E s :=
  call_isinstance (isi_false_bytes (by decide +kernel) PySem.F.isi_meta_str FY.sub_str) h
theorem isi_bytes_bool (h : Q (.bool false) { s with toks := s.toks + 1 }) : wpAny (model prog w) A (call (.builtin "isinstance") [.bytes b u, .type "bool"]) Q E s :=
  call_isinstance (isi_false_bytes (by decide +kernel) PySem.F.isi_meta_bool FY.sub_bool) h
theorem isi_bytes_bytes (h : Q (.bool true) s) : wpAny (model prog w) A (call (.builtin "isinstance") [.bytes b u, .type "bytes"]) Q E s :=
  call_isinstance (isinstance_true (Tx := "bytes") PySem.F.isi_meta_bytes PySem.F.bm_sub) ⟨rfl, h⟩
end
end Mine
end
section
open PySem PySem.W PyProof.Rows
set_option Elab.async false
set_option linter.unusedVariables false
set_option maxRecDepth 100000
namespace Mine
open Sem (wp)
def nints (ns : List Nat) : List AV := ns.map fun n : Nat => AV.int n
theorem nints_length (ns : List Nat) : (nints ns).length = ns.length := by simp [nints]
theorem nints_append (xs ys : List Nat) : nints (xs ++ ys) = nints xs ++ nints ys := by simp [nints]
theorem nints_reverse (xs : List Nat) : nints xs.reverse = (nints xs).reverse := by simp [nints]
def zints (ns : List Int) : List AV := ns.map AV.int
theorem zints_are : ∀ {ns : List Int} {vs : List Value}, IsAll (zints ns) vs → IntsAre vs ns
  | [], vs, h => by rw [IsAll.nil_inv h]; exact .nil
  | n :: ns, vs, h => by
    obtain ⟨v, r, rfl, h1, h2⟩ := IsAll.cons_inv h
    obtain ⟨t, rfl⟩ := h1
    exact .cons n t (zints_are h2)
theorem nints_zints (ns : List Nat) : nints ns = zints (ns.map Int.ofNat) := by simp [nints, zints]
theorem byteArr_nints (ns : List Nat) : byteArr (ns.map Int.ofNat) = byteA ns := by
  simp [byteArr, byteA, Function.comp_def]
section
variable {F : FC} {c : Cx} {X : XP} {m : Loc} {H : AHeap} {a b : Addr} {Q : AV → AHeap → Prop} {ns : List Nat}
theorem WV.any1 {t : Sem Value} {av : AV} {u : Value} (hi : av.Is u) (h : ∀ h₀ s, St F c h₀ m H s → ∀ (Q' : Value → Shared → Prop), (∀ v s' a H', St F c h₀ m H' s' → a.Is v → Q a H' → Q' v s') → wpAny (model F.prog c.w) c.A t Q' (X h₀) s) : WV F c t Q X m H := WV.leaf h
theorem bytes_list (e : H a = some (.list (nints ns))) (hb : ∀ n ∈ ns, n < 256) (hl : ns.length ≤ bigLine) (h : Q (.bytes ns) H) : WCall F c (.type "bytes") [.ref a] Q X m H := fun vf vs hv hi => .mk fun h₀ s x => by
  obtain rfl : vf = .type "bytes" := hv
  obtain ⟨_, r, rfl, h1, h2⟩ := hi.cons_inv
  obtain rfl := h2.nil_inv
  obtain rfl := (show _ = Value.ref a from h1)
  obtain ⟨us, k, p⟩ := x.list e
  rw [nints_zints] at k
  refine wpC_any (call_bytes_ints p.isList (zints_are k) ?_ ?_ x.ok.hh fun h' t tk kk => ?_)
  · intro n hn
    obtain ⟨j, hj, rfl⟩ := List.mem_map.mp hn
    have := hb j hj
    constructor
    · exact Int.natCast_nonneg _
    · show ((j : Nat) : Int) < 256; lia
  · rw [k.length]; unfold zints; rw [List.length_map, List.length_map, ← bigLine_eq]; exact hl
  · rw [byteArr_nints]
    exact ⟨.bytes ns, H, x.grow kk, ⟨hb, t, rfl⟩, h⟩
theorem list_bytes (hl : ns.length ≤ bigLine) (h : ∀ d, H d = none → Q (.ref d) (H.set d (.list (nints ns)))) : WCall F c (.type "list") [.bytes ns] Q X m H := fun vf vs hv hi => .mk fun h₀ s x => by
  obtain rfl : vf = .type "list" := hv
  obtain ⟨_, r, rfl, h1, h2⟩ := hi.cons_inv
  obtain rfl := h2.nil_inv
  obtain ⟨hb, t, rfl⟩ := h1
  refine wpC_any (call_list_bytes x.ok.hh (by rw [byteA_size, ← bigLine_eq]; exact hl) fun h' tk acc' c' kk hg hz hx => ?_)
  have ia : IsAll (nints ns) acc'.toList := by
    rw [byteA_size] at hz
    have key : ∀ (ns : List Nat) (vs : List Value), vs.length = ns.length → (∀ (j : Nat) (v : Value), vs[j]? = some v → ∃ n, ns[j]? = some n ∧ ∃ u, v = Value.int (n : Int) u) → IsAll (nints ns) vs := by
      intro ns
      induction ns with
      | nil => intro vs hl _; rw [List.length_eq_zero_iff.mp hl]; trivial
      | cons n ns ih =>
        intro vs hl hx
        cases vs with
        | nil => simp at hl
        | cons v vs =>
          obtain ⟨n', e1, u, e2⟩ := hx 0 v rfl
          cases e1
          exact ⟨⟨u, e2⟩, ih vs (by simpa using hl) fun j w hj => hx (j + 1) w (by simpa using hj)⟩
    refine key ns acc'.toList (by rw [Array.length_toList, hz]) fun j v hj => ?_
    obtain ⟨cc, u, e1, e2⟩ := hx j v (by rw [← Array.getElem?_toList]; exact hj)
    unfold byteA at e1
    rw [List.getElem?_toArray, List.getElem?_map] at e1
    cases q : ns[j]? with
    | none => rw [q] at e1; cases e1
    | some n =>
      rw [q] at e1
      refine ⟨n, rfl, u, ?_⟩
      have hlt := hb n (List.mem_of_getElem? q)
      cases e1
      rw [e2]
      congr 1
      show (((Nat.toUInt8 n).toNat : Nat) : Int) = n
      have : (Nat.toUInt8 n).toNat = n := by simp; lia
      rw [this]
  obtain ⟨y, hn⟩ := x.add (t := tk) (o := .list (nints ns)) kk (Heap.get?_none_of_le (Nat.le_refl _)) hg ⟨acc', c', rfl, ia⟩
  exact ⟨.ref _, _, y, rfl, h _ hn⟩
theorem St.barr {h₀ : Heap} {s : Shared} (x : St F c h₀ m H s) (e : H a = some (.barr ns)) : (∀ n ∈ ns, n < 256) ∧ s.heap.get? a = some { cls := .type "bytearray", data := .bytearray (byteA ns) 0 } := by
  obtain ⟨⟨ob, g, hb, rfl⟩, _⟩ := x.heap a _ e
  exact ⟨hb, g⟩
theorem bytes_barr (e : H a = some (.barr ns)) (hl : ns.length ≤ bigLine) (h : Q (.bytes ns) H) : WCall F c (.type "bytes") [.ref a] Q X m H := fun vf vs hv hi => .mk fun h₀ s x => by
  obtain rfl : vf = .type "bytes" := hv
  obtain ⟨_, r, rfl, h1, h2⟩ := hi.cons_inv
  obtain rfl := h2.nil_inv
  obtain rfl := (show _ = Value.ref a from h1)
  obtain ⟨hb, g⟩ := x.barr e
  exact wpC_any (call_bytes_barr g (by rw [byteA_size, ← bigLine_eq]; exact hl) fun t k => ⟨.bytes ns, H, x.toks k, ⟨hb, t, rfl⟩, h⟩)
theorem bytes_bytes (h : Q (.bytes ns) H) : WCall F c (.type "bytes") [.bytes ns] Q X m H := fun vf vs hv hi => .mk fun h₀ s x => by
  obtain rfl : vf = .type "bytes" := hv
  obtain ⟨_, r, rfl, h1, h2⟩ := hi.cons_inv
  obtain rfl := h2.nil_inv
  obtain ⟨hb, t, rfl⟩ := h1
  exact wpC_any (call_bytes_bytes ⟨.bytes ns, H, x, ⟨hb, t, rfl⟩, h⟩)
theorem barr_new (h : ∀ d, H d = none → Q (.ref d) (H.set d (.barr []))) : WCall F c (.type "bytearray") [] Q X m H := fun vf vs hv hi => .mk fun h₀ s x => by
  obtain rfl : vf = .type "bytearray" := hv
  obtain rfl := hi.nil_inv
  refine wpC_barr_new fun h' kk hg => ?_
  obtain ⟨y, hn⟩ := x.add (t := s.toks) (o := .barr []) kk (Heap.get?_none_of_le (Nat.le_refl _)) hg ⟨fun n hn => (List.not_mem_nil hn).elim, rfl⟩
  exact ⟨.ref _, _, y, rfl, h _ hn⟩
theorem byteA_push (ns : List Nat) (n : Nat) : (byteA ns).push n.toUInt8 = byteA (ns ++ [n]) := by simp [byteA]
theorem barr_append {n : Nat} (e : H a = some (.barr ns)) (hn : n < 256) (hl : ns.length < bigLine) (h : Q .none (H.set a (.barr (ns ++ [n])))) : WCall F c (.builtin "bytearray.append") [.ref a, .int n] Q X m H := fun vf vs hv hi => .mk fun h₀ s x => by
  obtain rfl : vf = .builtin "bytearray.append" := hv
  obtain ⟨_, r, rfl, h1, h2⟩ := hi.cons_inv
  obtain ⟨w, r, rfl, h3, h4⟩ := h2.cons_inv
  obtain rfl := h4.nil_inv
  obtain rfl := (show _ = Value.ref a from h1)
  obtain ⟨t, rfl⟩ := h3
  obtain ⟨hb, g⟩ := x.barr e
  refine wpC_barr_append g (Int.natCast_nonneg _) (by lia) (by rw [byteA_size, ← bigLine_eq]; exact hl) fun h' sb hg => ?_
  rw [Int.toNat_natCast, byteA_push] at hg
  refine ⟨.none, _, x.upd (o' := .barr (ns ++ [n])) (t := s.toks) e sb hg ⟨fun k hk => ?_, rfl⟩, rfl, h⟩
  rcases List.mem_append.mp hk with q | q
  · exact hb k q
  · rw [List.mem_singleton.mp q]; exact hn
theorem barr_extend {ks : List Nat} (e : H a = some (.barr ns)) (hl : ns.length + ks.length ≤ bigLine) (h : Q .none (H.set a (.barr (ns ++ ks)))) : WCall F c (.builtin "bytearray.extend") [.ref a, .bytes ks] Q X m H := fun vf vs hv hi => .mk fun h₀ s x => by
  obtain rfl : vf = .builtin "bytearray.extend" := hv
  obtain ⟨_, r, rfl, h1, h2⟩ := hi.cons_inv
  obtain ⟨w, r, rfl, h3, h4⟩ := h2.cons_inv
  obtain rfl := h4.nil_inv
  obtain rfl := (show _ = Value.ref a from h1)
  obtain ⟨hk, t, rfl⟩ := h3
  obtain ⟨hb, g⟩ := x.barr e
  refine wpC_barr_extend g (by rw [byteA_size, byteA_size, ← bigLine_eq]; exact hl) fun h' sb hg => ?_
  rw [← byteA_append] at hg
  refine ⟨.none, _, x.upd (o' := .barr (ns ++ ks)) (t := s.toks) e sb hg ⟨fun k hk' => ?_, rfl⟩, rfl, h⟩
  rcases List.mem_append.mp hk' with q | q
  · exact hb k q
  · exact hk k q
theorem len_barr (e : H a = some (.barr ns)) (hl : ns.length ≤ bigLine) (h : Q (.int ns.length) H) : WCall F c (.builtin "len") [.ref a] Q X m H := fun vf vs hv hi => .mk fun h₀ s x => by
  obtain rfl : vf = .builtin "len" := hv
  obtain ⟨_, r, rfl, h1, h2⟩ := hi.cons_inv
  obtain rfl := h2.nil_inv
  obtain rfl := (show _ = Value.ref a from h1)
  obtain ⟨hb, g⟩ := x.barr e
  exact wpC_any (call_len_barr g (by rw [byteA_size, ← bigLine_eq]; exact hl) ⟨.int ns.length, H, x.toks _, ⟨_, by rw [byteA_size]⟩, h⟩)
theorem meth_barr_append (e : H a = some (.barr ns)) : Meth F c (Str.ofString "append") (.ref a) "bytearray.append" m H := fun h₀ s v x i pl Q E q => by
  obtain rfl : v = .ref a := i
  obtain ⟨hb, g⟩ := x.barr e
  refine getMethod_builtin ⟨_, g, rfl⟩ plainAttrs_barr slot_barr_append type_barr_append (fun a' e' => ?_) q
  cases e'; exact ⟨_, g, rfl⟩
theorem meth_barr_extend (e : H a = some (.barr ns)) : Meth F c (Str.ofString "extend") (.ref a) "bytearray.extend" m H := fun h₀ s v x i pl Q E q => by
  obtain rfl : v = .ref a := i
  obtain ⟨hb, g⟩ := x.barr e
  refine getMethod_builtin ⟨_, g, rfl⟩ plainAttrs_barr slot_barr_extend type_barr_extend (fun a' e' => ?_) q
  cases e'; exact ⟨_, g, rfl⟩
-- numbers
theorem call1 {f : AV} {v : AV} {av : AV} (hq : Q av H)
    (h : ∀ vf u, f.Is vf → v.Is u → ∀ (s : Shared) (Q' : Value → Shared → Prop) (E : Value → Shared → Prop), c.A.handled = none → (∀ w k, av.Is w → Q' w { s with toks := k }) → wpAny (model F.prog c.w) c.A (call vf [u]) Q' E s) : WCall F c f [v] Q X m H := fun vf vs hv hi => .mk fun h₀ s x => by
  obtain ⟨u, r, rfl, h1, h2⟩ := hi.cons_inv
  obtain rfl := h2.nil_inv
  exact wpC_any (h vf u hv h1 s _ _ x.ok.hh fun w k iw => ⟨av, H, x.toks k, iw, hq⟩)
theorem int_int {i : Int} (h : Q (.int i) H) : WCall F c (.type "int") [.int i] Q X m H :=
  call1 h fun vf u hv hu s Q' E _ k => by
    obtain rfl : vf = .type "int" := hv
    obtain ⟨t, rfl⟩ := hu
    refine PySem.call_int_int ?_
    exact k (.int i t) s.toks ⟨t, rfl⟩
theorem int_bool {i : Bool} (h : Q (.int (if i then 1 else 0)) H) : WCall F c (.type "int") [.bool i] Q X m H :=
  call1 h fun vf u hv hu s Q' E _ k => by
    obtain rfl : vf = .type "int" := hv
    obtain rfl : u = .bool i := hu
    exact PySem.call_int_bool (k _ _ ⟨_, rfl⟩)
theorem ord_chr {n : Nat} (h : Q (.int n) H) : WCall F c (.builtin "ord") [.str ⟨#[n]⟩] Q X m H :=
  call1 h fun vf u hv hu s Q' E _ k => by
    obtain rfl : vf = .builtin "ord" := hv
    obtain ⟨t, rfl⟩ := hu
    exact P.ord_of_char (k _ _ ⟨_, rfl⟩)
theorem chr_int {n : Nat} (hn : n ≤ 0x10FFFF) (h : Q (.str ⟨#[n]⟩) H) : WCall F c (.builtin "chr") [.int n] Q X m H :=
  call1 h fun vf u hv hu s Q' E _ k => by
    obtain rfl : vf = .builtin "chr" := hv
    obtain ⟨t, rfl⟩ := hu
    exact P.chr_of_int (by simp; lia) (k _ _ ⟨_, rfl⟩)
theorem max_int {i j : Int} (h : Q (.int (max i j)) H) : WCall F c (.builtin "max") [.int i, .int j] Q X m H := fun vf vs hv hi => .mk fun h₀ s x => by
  obtain rfl : vf = .builtin "max" := hv
  obtain ⟨_, r, rfl, ⟨t, rfl⟩, h2⟩ := hi.cons_inv
  obtain ⟨_, r, rfl, ⟨u, rfl⟩, h4⟩ := h2.cons_inv
  obtain rfl := h4.nil_inv
  refine wpC_any (max_two_ints x.ok.hh fun h' tk kk => ⟨.int (max i j), H, x.grow kk, ?_, h⟩)
  by_cases q : j > i
  · exact ⟨u, by rw [if_pos q, Int.max_eq_right (by lia)]⟩
  · exact ⟨t, by rw [if_neg q, Int.max_eq_left (by lia)]⟩
theorem min_int {i j : Int} (h : Q (.int (min i j)) H) : WCall F c (.builtin "min") [.int i, .int j] Q X m H := fun vf vs hv hi => .mk fun h₀ s x => by
  obtain rfl : vf = .builtin "min" := hv
  obtain ⟨_, r, rfl, ⟨t, rfl⟩, h2⟩ := hi.cons_inv
  obtain ⟨_, r, rfl, ⟨u, rfl⟩, h4⟩ := h2.cons_inv
  obtain rfl := h4.nil_inv
  refine wpC_any (min_two_ints x.ok.hh fun h' tk kk => ⟨.int (min i j), H, x.grow kk, ?_, h⟩)
  by_cases q : j < i
  · exact ⟨u, by rw [if_pos q, Int.min_eq_right (by lia)]⟩
  · exact ⟨t, by rw [if_neg q, Int.min_eq_left (by lia)]⟩
theorem range1 {n : Int} (h : ∀ d, H d = none → Q (.ref d) (H.set d (.range 0 n))) : WCall F c (.type "range") [.int n] Q X m H := fun vf vs hv hi => .mk fun h₀ s x => by
  obtain rfl : vf = .type "range" := hv
  obtain ⟨_, r, rfl, ⟨t, rfl⟩, h2⟩ := hi.cons_inv
  obtain rfl := h2.nil_inv
  refine wpC_any (call_range_1 ?_)
  obtain ⟨y, hn⟩ := x.new (o := .range 0 n) (ob := { cls := .type "range", data := .fields #[.int 0 s.toks, .int n t, .int 1 (s.toks + 1)] }) ⟨_, _, _, rfl⟩ rfl
  exact ⟨.ref _, _, y.toks _, rfl, h _ hn⟩
theorem range2 {i n : Int} (h : ∀ d, H d = none → Q (.ref d) (H.set d (.range i n))) : WCall F c (.type "range") [.int i, .int n] Q X m H := fun vf vs hv hi => .mk fun h₀ s x => by
  obtain rfl : vf = .type "range" := hv
  obtain ⟨_, r, rfl, ⟨t, rfl⟩, h2⟩ := hi.cons_inv
  obtain ⟨_, r, rfl, ⟨u, rfl⟩, h4⟩ := h2.cons_inv
  obtain rfl := h4.nil_inv
  refine wpC_any (call_range_2 ?_)
  obtain ⟨y, hn⟩ := x.new (o := .range i n) (ob := { cls := .type "range", data := .fields #[.int i t, .int n u, .int 1 s.toks] }) ⟨_, _, _, rfl⟩ rfl
  exact ⟨.ref _, _, y.toks _, rfl, h _ hn⟩
end
end Mine
end
section
open PySem PySem.W PyProof.Rows
set_option Elab.async false
set_option linter.unusedVariables false
set_option maxRecDepth 100000
namespace Mine
open Sem (wp)
/-- the plain values that the program keeps in rows -/
def AV.plain : AV → Bool
  | .none => true
  | .int _ => true
  | .str _ => true
  | .bytes _ => true
  | _ => false
def AV.isi : AV → String → Bool
  | .int _, T => T == "int"
  | .str _, T => T == "str"
  | .bytes _, T => T == "bytes"
  | _, _ => false
theorem byteA_back : ∀ {xs : List Nat}, (∀ n ∈ xs, n < 256) → (byteA xs).toList.map UInt8.toNat = xs := by
  intro xs h
  unfold byteA
  rw [List.map_map]
  refine (List.map_congr_left (g := id) fun n hn => ?_).trans (List.map_id _)
  have := h n hn
  show (Nat.toUInt8 n).toNat = n
  simp; lia
theorem byteA_inj {xs ys : List Nat} (hx : ∀ n ∈ xs, n < 256) (hy : ∀ n ∈ ys, n < 256) (e : (byteA xs).toList = (byteA ys).toList) : xs = ys := by
  rw [← byteA_back hx, ← byteA_back hy, e]
section
variable {F : FC} {c : Cx} {X : XP} {m : Loc} {H : AHeap} {a b : Addr}
section
variable {Q : AV → AHeap → Prop}
theorem isi_any {v : AV} {T : String} (hp : v.plain = true) (hT : T = "int" ∨ T = "str" ∨ T = "bytes" ∨ T = "bool") (h : Q (.bool (v.isi T)) H) : WCall F c (.builtin "isinstance") [v, .type T] Q X m H := fun vf vs hv hi => .mk fun h₀ s x => by
  obtain rfl : vf = .builtin "isinstance" := hv
  obtain ⟨u, r, rfl, h1, h2⟩ := hi.cons_inv
  obtain ⟨w, r, rfl, h3, h4⟩ := h2.cons_inv
  obtain rfl := h4.nil_inv
  obtain rfl : w = .type T := h3
  have fin : ∀ k, PV F c h₀ m Q (.bool (v.isi T)) { s with toks := k } := fun k => ⟨.bool (v.isi T), H, x.toks k, rfl, h⟩
  refine wpC_any ?_
  cases v with
  | none =>
    obtain rfl : u = .none := h1
    rcases hT with rfl | rfl | rfl | rfl
    · exact IsiPair.NoneType_int (fin _)
    · exact IsiPair.NoneType_str (fin _)
    · exact IsiPair.NoneType_bytes (fin _)
    · exact IsiPair.NoneType_bool (fin _)
  | int i =>
    obtain ⟨t, rfl⟩ := h1
    rcases hT with rfl | rfl | rfl | rfl
    · exact IsiPair.int_int (fin _)
    · exact IsiPair.int_str (fin _)
    · exact IsiPair.int_bytes (fin _)
    · exact IsiPair.int_bool (fin _)
  | str i =>
    obtain ⟨t, rfl⟩ := h1
    rcases hT with rfl | rfl | rfl | rfl
    · exact IsiPair.str_int (fin _)
    · exact IsiPair.str_str (fin _)
    · exact IsiPair.str_bytes (fin _)
    · exact IsiPair.str_bool (fin _)
  | bytes i =>
    obtain ⟨hb, t, rfl⟩ := h1
    rcases hT with rfl | rfl | rfl | rfl
    · exact isi_bytes_int (fin _)
    · exact isi_bytes_str (fin _)
    · exact isi_bytes_bytes (fin _)
    · exact isi_bytes_bool (fin _)
  | _ => cases hp
theorem isi_list {xs : List AV} (e : H a = some (.list xs)) (h : Q (.bool true) H) : WCall F c (.builtin "isinstance") [.ref a, .type "list"] Q X m H := fun vf vs hv hi => .mk fun h₀ s x => by
  obtain rfl : vf = .builtin "isinstance" := hv
  obtain ⟨u, r, rfl, h1, h2⟩ := hi.cons_inv
  obtain ⟨w, r, rfl, h3, h4⟩ := h2.cons_inv
  obtain rfl := h4.nil_inv
  obtain rfl : w = .type "list" := h3
  obtain rfl : u = .ref a := h1
  obtain ⟨us, k, n, p⟩ := x.list e
  exact wpC_any (IsiPair.list_list p rfl ⟨.bool true, H, x, rfl, h⟩)
/-- `octets[i:j]` -/
theorem WE_Slice {value lo hi : Expr} {ps pos : Pos}
    (h : WE F c value (fun a H => WE F c lo (fun l H => WE F c hi (fun u H => ∃ ns, ∃ i j : Nat, a = .bytes ns ∧ l = .int i ∧ u = .int j ∧ ns.length ≤ bigLine ∧ i ≤ j ∧ j ≤ ns.length ∧ Q (.bytes ((ns.drop i).take (j - i))) H) X m H) X m H) X m H) :
    WE F c (.Subscript value (.Slice (some lo) (some hi) none ps) pos) Q X m H := .mk fun h₀ s x => by
  rw [eval_Subscript]
  refine wpC_then (h.run h₀ s x) fun va s1 ⟨a, H1, x1, i1, q1⟩ => ?_
  refine wpC_bind (wpC_holding ?_)
  rw [arm_eval_Slice]
  have e1 : valueOrNone (evalOpt (some lo) c.env) = eval lo c.env := rfl
  have e2 : valueOrNone (evalOpt (some hi) c.env) = eval hi c.env := rfl
  have e3 : valueOrNone (evalOpt none c.env) = pure .none := rfl
  rw [e1, e2, e3]
  refine wpC_then (q1.run h₀ s1 x1) fun vl s2 ⟨l, H2, x2, i2, q2⟩ => ?_
  refine wpC_then (wpC_holding (q2.run h₀ s2 x2)) fun vu s3 ⟨u, H3, x3, i3, q3⟩ => ?_
  refine wpC_bind (wpC_holding (wpC_pure ?_))
  obtain ⟨ns, i, j, rfl, rfl, rfl, hl, hij, hj, q⟩ := q3
  obtain ⟨hb, t, rfl⟩ := i1
  obtain ⟨t2, rfl⟩ := i2
  obtain ⟨t3, rfl⟩ := i3
  refine wpC_any ?_
  unfold newFields
  with_reducible refine wpAny_newObj_type ?_ ?_
  · refine wpC_at (wpC_any ?_)
    have yy : ∀ k, St F c h₀ m H3 ({ s3 with heap := s3.heap.push { cls := .type "slice", data := .fields [.int i t2, .int j t3, .none].toArray }, toks := k }) := fun k => x3.grow fun b o e => Heap.get?_push_of_some _ e
    refine tail_any (typeIs_bytes _ _ _) FB.slot_bytes_getitem.lookup (getItem_meets (typeIs_bytes _ _ _) (by decide) FB.slot_bytes_getitem FB.entry_bytes_getitem (FB.args_bytes_getitem_2 _ _) (KBc.meets_slice2 (byteA ns) t _ (.int i t2) (.int j t3)) ⟨Heap.IsSliceOf.new _ _ _ _, ?_, fun t' k => ?_⟩) rfl
    · refine Nat.le_trans (KBc.size_picked_le _ _ _) ?_
      rw [byteA_size, ← bigLine_eq]; exact hl
    · have e : KBy.picked (byteA ns) (some (i : Int)) (some (j : Int)) = byteA ((ns.drop i).take (j - i)) := by
        rw [KBc.picked_eq]
        show (((byteA ns).toList.drop (clipAt (byteA ns).size i)).take (clipAt (byteA ns).size j - clipAt (byteA ns).size i)).toArray = _
        rw [clipAt_nat, clipAt_nat, byteA_size, Nat.min_eq_left hj, Nat.min_eq_left (Nat.le_trans hij hj)]
        unfold byteA
        rw [List.map_take, List.map_drop]
      rw [e]
      refine ⟨.bytes ((ns.drop i).take (j - i)), H3, yy k, ⟨fun n hn => hb n (List.mem_of_mem_drop (List.mem_of_mem_take hn)), t', rfl⟩, q⟩
  · show (3 : Nat) ≤ _
    decide
theorem meth_join {y : Str} : Meth F c (Str.ofString "join") (.str y) "str.join" m H := fun h₀ s v x i pl Q E q => by
  obtain ⟨t, rfl⟩ := i
  exact PySem.GM.join q
theorem strs_are : ∀ {ys : List Str} {vs : List Value}, IsAll (ys.map AV.str) vs → StrsAre vs ys
  | [], vs, h => by rw [IsAll.nil_inv h]; exact .nil
  | n :: ns, vs, h => by
    obtain ⟨v, r, rfl, h1, h2⟩ := IsAll.cons_inv h
    obtain ⟨t, rfl⟩ := h1
    exact .cons n t (strs_are h2)
theorem call_join {y : Str} {ys : List Str} (e : H a = some (.list (ys.map AV.str))) (hy : y.length ≤ 16) (hw : (ys.map (·.length)).sum + ys.length ≤ 1048576) (h : Q (.str (Txt.join y ys)) H) : WCall F c (.builtin "str.join") [.str y, .ref a] Q X m H := fun vf vs hv hi => .mk fun h₀ s x => by
  obtain rfl : vf = .builtin "str.join" := hv
  obtain ⟨u, r, rfl, ⟨t, rfl⟩, h2⟩ := hi.cons_inv
  obtain ⟨w, r, rfl, h3, h4⟩ := h2.cons_inv
  obtain rfl := h4.nil_inv
  obtain rfl : w = .ref a := h3
  obtain ⟨us, k, p⟩ := x.list e
  exact wpC_any (join_listW p.isList (by simpa using strs_are k) hy hw fun t' k => ⟨.str (Txt.join y ys), H, x.toks k, ⟨t', rfl⟩, h⟩)
end
section
variable {Q : Bool → AHeap → Prop}
theorem cmp_leafS {op : CmpOp} {u v : AV} {r : Bool} (hq : Q r H)
    (h : ∀ h₀ s vx vy, u.Is vx → v.Is vy → St F c h₀ m H s → ∀ (Q' : Value → Shared → Prop) (E : Value → Shared → Prop), (∀ k, Q' (.bool r) { s with toks := k }) → wpAny (model F.prog c.w) c.A (compareOp op vx vy) Q' E s) : WCmp F c op u v Q X m H :=
  fun vx vy ix iy => .mk fun h₀ s x => wpC_any (h h₀ s vx vy ix iy x _ _ fun k => ⟨.bool r, H, x.toks k, rfl, r, rfl, hq⟩)
theorem cmp_eq_bytes {xs ys : List Nat} (h : Q (decide (xs = ys)) H) : WCmp F c .Eq (.bytes xs) (.bytes ys) Q X m H :=
  cmp_leafS h fun h₀ s vx vy ix iy x Q' E k => by
    obtain ⟨hb, t, rfl⟩ := ix
    obtain ⟨hb', u, rfl⟩ := iy
    refine eq_bytes ?_
    have e : ((byteA xs).toList == (byteA ys).toList) = decide (xs = ys) := by
      rw [Bool.eq_iff_iff, beq_iff_eq, decide_eq_true_iff]
      exact ⟨fun q => byteA_inj hb hb' q, fun q => by rw [q]⟩
    rw [e]; exact k _
theorem cmp_ne_bytes {xs ys : List Nat} (h : Q (!decide (xs = ys)) H) : WCmp F c .NotEq (.bytes xs) (.bytes ys) Q X m H :=
  cmp_leafS h fun h₀ s vx vy ix iy x Q' E k => by
    obtain ⟨hb, t, rfl⟩ := ix
    obtain ⟨hb', u, rfl⟩ := iy
    refine ne_bytes ?_
    have e : ((byteA xs).toList != (byteA ys).toList) = !decide (xs = ys) := by
      rw [bne, Bool.not_eq_eq_eq_not, Bool.not_not, Bool.eq_iff_iff, beq_iff_eq, decide_eq_true_iff]
      exact ⟨fun q => byteA_inj hb hb' q, fun q => by rw [q]⟩
    rw [e]; exact k _
theorem cmp_eq_bool {x y : Bool} (h : Q (x == y) H) : WCmp F c .Eq (.bool x) (.bool y) Q X m H :=
  cmp_leafS h fun h₀ s vx vy ix iy _ Q' E k => by
    obtain rfl : vx = .bool x := ix
    obtain rfl : vy = .bool y := iy
    exact eq_bool (k _)
theorem cmp_ne_lists {ns ms : List Int} (e1 : H a = some (.list (zints ns))) (e2 : H b = some (.list (zints ms))) (h : Q (!decide (ns = ms)) H) : WCmp F c .NotEq (.ref a) (.ref b) Q X m H :=
  cmp_leafS h fun h₀ s vx vy ix iy x Q' E k => by
    obtain rfl : vx = .ref a := ix
    obtain rfl : vy = .ref b := iy
    obtain ⟨us, ku, p⟩ := x.list e1
    obtain ⟨ws, kw, p'⟩ := x.list e2
    have hu := x.ok.units
    exact ke_ne_ints p.isList p'.isList (zints_are ku) (zints_are kw) (by lia) (k _)
def AV.isNone : AV → Bool
  | .none => true
  | _ => false
theorem isNone_eq {v : AV} {u : Value} (i : v.Is u) : (u == Value.none) = v.isNone := by
  cases v with
  | none => obtain rfl : u = .none := i; rfl
  | bool b => obtain rfl : u = .bool b := i; rfl
  | int n => obtain ⟨t, rfl⟩ := i; rfl
  | str n => obtain ⟨t, rfl⟩ := i; rfl
  | bytes n => obtain ⟨_, t, rfl⟩ := i; rfl
  | ref n => obtain rfl : u = .ref n := i; rfl
  | type n => obtain rfl : u = .type n := i; rfl
  | builtin n => obtain rfl : u = .builtin n := i; rfl
theorem cmp_is_none {v : AV} (h : Q v.isNone H) : WCmp F c .Is v .none Q X m H :=
  cmp_leafS h fun h₀ s vx vy ix iy x Q' E k => by
    obtain rfl : vy = .none := iy
    refine is_none ?_
    rw [isNone_eq ix]; exact k _
theorem cmp_isnot_none {v : AV} (h : Q (!v.isNone) H) : WCmp F c .IsNot v .none Q X m H :=
  cmp_leafS h fun h₀ s vx vy ix iy x Q' E k => by
    obtain rfl : vy = .none := iy
    refine isNot_none ?_
    rw [isNone_eq ix]; exact k _
theorem cmp_in_list {ns : List Int} {i : Int} (e : H a = some (.list (zints ns))) (h : Q (ns.any (· == i)) H) : WCmp F c .In (.int i) (.ref a) Q X m H :=
  cmp_leafS h fun h₀ s vx vy ix iy x Q' E k => by
    obtain ⟨t, rfl⟩ := ix
    obtain rfl : vy = .ref a := iy
    obtain ⟨us, ku, p⟩ := x.list e
    exact in_list_ints p.isList (zints_are ku) (k _)
theorem cmp_in_tup {ns : List Int} {i : Int} (e : H a = some (.tuple (zints ns))) (h : Q (ns.any (· == i)) H) : WCmp F c .In (.int i) (.ref a) Q X m H :=
  cmp_leafS h fun h₀ s vx vy ix iy x Q' E k => by
    obtain ⟨t, rfl⟩ := ix
    obtain rfl : vy = .ref a := iy
    obtain ⟨us, ku, p⟩ := x.tup e
    exact in_tuple_ints p (zints_are ku) (k _)
end
end
end Mine
end
section
open PySem PySem.W PyProof.Rows
set_option Elab.async false
set_option linter.unusedVariables false
set_option maxRecDepth 100000
namespace Mine
open Sem (wp)
-- variables in cells
section
variable {F : FC} {c : Cx} {X : XP} {m : Loc} {H : AHeap}
theorem St.cellIs {h₀ : Heap} {s : Shared} (x : St F c h₀ m H s) {a : Addr} {v : AV} (e : H a = some (.cell (some v))) : ∃ u, s.heap.IsCell a (some u) ∧ v.Is u := by
  obtain ⟨⟨ob, g, u, hd, i⟩, _⟩ := x.heap a _ e
  exact ⟨u, ⟨ob, g, hd⟩, i⟩
theorem WE_cell {x : Str} {v : AV} {a : Addr} {pos : Pos} {Q : AV → AHeap → Prop} (hx : F.scope.names.lookup x = some .cell) (hc : c.env.cells.lookup x = some a) (e : H a = some (.cell (some v))) (h : Q v H)
    (hd : (x == ("__debug__" : Str)) = false := by decide) : WE F c (.Name x pos) Q X m H := .mk fun h₀ s y => by
  obtain ⟨u, g, i⟩ := y.cellIs e
  have hk : c.env.kindOf x = some .cell := by unfold Env.kindOf; rw [y.ok.scope]; exact hx
  exact wpC_any (wpAny_Name (wpAny_loadName_cell (by rw [y.ok.scope]; exact y.ok.kind) hk hc g ⟨v, H, y, i, h⟩) hd)
theorem WS_AssignCell {x : Str} {a : Addr} {o : Option AV} {pos' pos : Pos} {value : Expr} {Q : AFlow → Loc → AHeap → Prop} (hx : F.scope.names.lookup x = some .cell) (hc : c.env.cells.lookup x = some a)
    (h : WE F c value (fun v H => ∃ o, H a = some (.cell o) ∧ Q .next m (H.set a (.cell (some v)))) X m H) (hs : swapsWith value (some (.Name x pos')) pos.line c.env = pure false := by rfl) :
    WS F c (.Assign [.Name x pos'] value pos) Q X m H := .mk fun h₀ s y => by
  rw [exec_Assign_Name _ _ _ _ _ hs]
  refine wpC_at (wpC_then (h.run h₀ s y) fun v s1 ⟨av, H', z, i, o, e, q⟩ => wpC_at (wpC_bind (wpC_any (wpAny_bindName ?_))))
  have hk : c.env.kindOf x = some .cell := by unfold Env.kindOf; rw [z.ok.scope]; exact hx
  obtain ⟨⟨ob, g, io⟩, _⟩ := z.heap a _ e
  have hcell : ∃ v₀, s1.heap.IsCell a v₀ := by
    cases o with
    | none => exact ⟨none, ob, g, io⟩
    | some w => obtain ⟨u, hd, _⟩ := io; exact ⟨some u, ob, g, hd⟩
  obtain ⟨v₀, hv₀⟩ := hcell
  refine wpAny_storeName_cell (by rw [z.ok.scope]; exact z.ok.kind) hk hc hv₀ fun h' hc' sb => ?_
  obtain ⟨ob', g', hd'⟩ := hc'
  exact wpC_pure ⟨.next, m, _, z.upd (o' := .cell (some av)) (t := s1.toks) e sb g' ⟨v, hd', i⟩, rfl, q⟩
end
-- comprehensions
def closF (cells : List (Str × Addr)) : List (Str × NameKind) → List (Str × Addr) → List (Str × Addr)
  | [], acc => acc
  | (n, k) :: r, acc => if k == .free then closF cells r ((n, (cells.lookup n).getD 0) :: acc) else closF cells r acc
theorem closF_for {env : Env} (f : Str × NameKind → List (Str × Addr) → Sem (ForInStep (List (Str × Addr))))
    (hf : ∀ n k cs, f (n, k) cs = if (k == NameKind.free) = true then (do let a ← cellOf env n; pure (ForInStep.yield ((n, a) :: cs))) else pure (ForInStep.yield cs)) :
    ∀ (l : List (Str × NameKind)) (acc : List (Str × Addr)), (∀ x ∈ l, x.2 = .free → (env.cells.lookup x.1).isSome = true) → (forIn l acc f : Sem (List (Str × Addr))) = pure (closF env.cells l acc) := by
  intro l
  induction l with
  | nil => intro acc _; rfl
  | cons x l ih =>
    intro acc hx
    obtain ⟨n, k⟩ := x
    rw [List.forIn_cons, hf]
    by_cases hk : (k == NameKind.free) = true
    · have hs := hx (n, k) List.mem_cons_self (beq_iff_eq.mp hk)
      obtain ⟨a, ha⟩ := Option.isSome_iff_exists.mp hs
      have hce : cellOf env n = pure a := by unfold cellOf; rw [ha]
      rw [if_pos hk, hce]
      simp only [pure_bind]
      rw [ih _ fun y hy => hx y (List.mem_cons_of_mem _ hy)]
      simp only [closF, hk, if_true, ha, Option.getD_some]
    · rw [if_neg hk]
      simp only [pure_bind]
      rw [ih _ fun y hy => hx y (List.mem_cons_of_mem _ hy)]
      simp only [closF, hk, if_false, Bool.false_eq_true]
theorem closureFor_of {scope : Scope} {env : Env} (h : ∀ x ∈ scope.names, x.2 = .free → (env.cells.lookup x.1).isSome = true) : closureFor scope env = pure (closF env.cells scope.names []) := by
  simp only [closureFor]
  rw [closF_for (env := env) _ (fun n k cs => by cases hk : k == NameKind.free <;> simp [hk]) scope.names [] h]
  rfl
def relab (sc outer : Scope) : Scope :=
  { sc with names := sc.names.map fun (n, k) => if (k == .free && outer.kind == .function && outer.names.lookup n == some .cell) then (n, .cell) else (n, k) }
theorem relabel_eq (sc : Scope) (env : Env) : relabel sc env = relab sc env.scope := rfl
section
variable {M : Model} {A : Around} {E : Value → Shared → Prop} {s : Shared} {env : Env}
def postC (M : Model) (A : Around) (E : Value → Shared → Prop) (use : Option (Value → Sem Unit)) (Q : Value → Shared → Prop) (acc : Value) (C : Addr) (r : Result) (s' : Shared) : Prop :=
  match r, use with
  | .ok _, none => ∃ m, s'.heap.Ns C m ∧ ∀ h', Heap.SameBut C s'.heap h' → Q acc { s' with heap := h' }
  | .ok _, some u => wpC M A (u acc) (fun _ s'' => ∃ m, s''.heap.Ns C m ∧ ∀ h', Heap.SameBut C s''.heap h' → Q .none { s'' with heap := h' }) E s'
  | .error _, _ => False
theorem wpC_eq {α : Type} {t : Sem α} {a : α} {Q : α → Shared → Prop} (e : t = pure a) (h : Q a s) : wpC M A t Q E s := by rw [e]; exact wpC_pure h
theorem wpC_standIf {α : Type} {c : Prop} [Decidable c] {pos : Pos} {k : PUnit → Sem α} {Q : α → Shared → Prop} (h : wpC M A (k ()) Q E s) : wpC M A (if c then (standAt pos >>= k) else k ()) Q E s := by
  split
  · exact wpC_bind (wpC_standAt h)
  · exact h
theorem wpC_comprehension {e : Expr} {scope : Scope} {pos : Pos} {newAcc first : Sem Value} {g : Comprehension} {gs : List Comprehension} {cl : List (Str × Addr)} {use : Option (Value → Sem Unit)} {Q : Value → Shared → Prop}
    (hcl : clausesOf e = g :: gs) (hs : ∀ x, foldedSetIterable g.iter env x = pure x) (hclos : closureFor scope env = pure cl)
    (hkind : scope.kind = .function) (hnames : ∀ x ∈ scope.names, x.2 = .local → scope.names.lookup x.1 = some .local)
    (h : wpC M A first (fun x s₁ => wpC M A (pyIter x) (fun it s₂ => wpC M A newAcc (fun acc s₃ =>
      wpC M A (newFunctionEnv scope env.globals cl [] env.qual none .none (some env)) (fun cenv s₄ =>
        codeC M A (.compStart e 0 it acc { cenv with scope := relabel scope env }) (postC M A E use Q acc cenv.locals) s₄) E s₃) E s₂) E s₁) E s) :
    wpC M A (comprehension e scope env pos newAcc false first use) Q E s := by
  unfold comprehension
  rw [hclos, hcl]
  refine wpC_then h fun x s₁ h₁ => wpC_at ?_
  refine wpC_bind (wpC_eq (hs x) (wpC_bind (wpC_holding (wpC_mono h₁ (fun it s₂ h₂ => ?_) fun _ _ h' => h'))))
  refine wpC_standIf (wpC_then h₂ fun acc s₃ h₃ => wpC_bind (wpC_pure (wpC_then h₃ fun cenv s₄ h₄ => ?_)))
  dsimp only
  have hv : ∀ x ∈ (scope.names.filter fun x => (x.2 == .local || x.2 == .cell) && x.1 != (".0" : Str)).reverse, x.2 = .local →
      Env.kindOf { cenv with scope := relabel scope env } x.1 = some .local := fun x hx hl => lookup_relabel_local (hnames x (List.mem_filter.mp (List.mem_reverse.mp hx)).1 hl)
  have hv' : ∀ x ∈ (scope.names.filter fun x => (x.2 == .local || x.2 == .cell) && x.1 != (".0" : Str)).reverse.drop 1 ++ (scope.names.filter fun x => (x.2 == .local || x.2 == .cell) && x.1 != (".0" : Str)).reverse.take 1,
      x.2 = .local → Env.kindOf { cenv with scope := relabel scope env } x.1 = some .local := fun x hx hl => by
    rcases List.mem_append.mp hx with h1 | h1
    · exact hv x (List.mem_of_mem_drop h1) hl
    · exact hv x (List.mem_of_mem_take h1) hl
  have hm : A.mark none = A := rfl
  refine wpC_holding (wpC_bind (wpC_attempt (wpC_holding (wpC_run ?_))))
  rw [hm]
  intro Γ p hc hΓ hcln
  refine wpCode_mono ?_ (h₄ Γ p hc hΓ hcln)
  intro r s' hr
  cases r with
  | ok f =>
    cases use with
    | none =>
      obtain ⟨m, hn, hr⟩ := hr
      exact wpC_bind (wpC_holding (wpC_any (wpAny_comp_letGo (cenv := { cenv with scope := relabel scope env }) hkind _ s' m hv hn fun h' m' _ hs' => wpC_pure (hr h' hs'))))
    | some u =>
      refine wpC_bind (wpC_any (wpAny_rule (wpC_bind (wpC_holding (wpC_mono hr (fun _ s'' hr' => ?_) fun _ _ h' => h')))))
      obtain ⟨m, hn, hr'⟩ := hr'
      exact wpC_bind (wpC_any (wpAny_comp_letGo (cenv := { cenv with scope := relabel scope env }) hkind _ s'' m hv' hn fun h' m' _ hs' => wpC_pure (hr' h' hs')))
  | error x => cases use <;> exact hr.elim
end
end Mine
end
section
open PySem PySem.W PyProof.Rows
set_option Elab.async false
set_option linter.unusedVariables false
set_option maxRecDepth 100000
namespace Mine
open Sem (wp)
def WComp (F : FC) (c : Cx) (asg : Asg) (elt : Expr) (S : AHeap → Prop) (D : Addr) (Q : AHeap → Prop) : List AV → Loc → AHeap → Prop
  | [], m, H => S H ∧ Q H
  | v :: r, m, H => S H ∧ asg v m H (fun m H => WE F c elt (fun y H => ∃ ys, H D = some (.list ys) ∧ ys.length ≤ bigLine ∧ WComp F c asg elt S D Q r m (H.set D (.list (ys ++ [y])))) noX m H)
section
variable {F : FC} {c : Cx} {X : XP} {h₀ : Heap} {m : Loc} {H : AHeap} {s : Shared}
/-- a change at an address that is none of ours -/
theorem St.sameBut (x : St F c h₀ m H s) {h' : Heap} {t : Nat} {I : Addr} (sb : Heap.SameBut I s.heap h') (hIL : I ≠ c.env.locals) (hIH : H I = none) (hI0 : h₀.get? I = none) : St F c h₀ m H { s with heap := h', toks := t } := by
  refine ⟨x.ok, x.sta, ?_, x.loc, x.nd, fun b o e => (sb.2 b fun q => by rw [q, hI0] at e; cases e).trans (x.keep b o e), x.newL, fun a o e => ?_, x.gens, x.os, x.gp⟩
  · obtain ⟨mm, n, hm⟩ := x.ns
    exact ⟨mm, n.sameBut sb (Ne.symm hIL), hm⟩
  · obtain ⟨⟨ob, g, i⟩, r⟩ := x.heap a o e
    exact ⟨⟨ob, (sb.2 a fun q => by rw [q, hIH] at e; cases e).trans g, i⟩, r⟩
theorem St.extBut (x : St F c h₀ m H s) {h' : Heap} {I : Addr} (e' : Heap.ExtBut I s.heap h') (hIL : I ≠ c.env.locals) (hIH : H I = none) (hI0 : h₀.get? I = none) : St F c h₀ m H { s with heap := h' } := by
  refine ⟨x.ok, x.sta, ?_, x.loc, x.nd, fun b o e => e' b o (fun q => by rw [q, hI0] at e; cases e) (x.keep b o e), x.newL, fun a o e => ?_, x.gens, x.os, x.gp⟩
  · obtain ⟨mm, n, hm⟩ := x.ns
    exact ⟨mm, n.extBut e' (Ne.symm hIL), hm⟩
  · obtain ⟨⟨ob, g, i⟩, r⟩ := x.heap a o e
    exact ⟨⟨ob, e' a ob (fun q => by rw [q, hIH] at e; cases e) g, i⟩, r⟩
theorem St.backG {F' : FC} {c' : Cx} {g : Heap} {m' : Loc} {H' : AHeap} {s' : Shared} (x : St F c h₀ m H s) (y : St F' c' g m' H' s') (g1 : ∀ b o, h₀.get? b = some o → g.get? b = some o)
    (gL : ∀ o, s.heap.get? c.env.locals = some o → g.get? c.env.locals = some o) (hos : c'.os = c.os) : St F c h₀ m H' s' := by
  have hL : ∃ mm, g.Ns c.env.locals mm ∧ ∀ z v, (z, some v) ∈ m → ∃ u, mm z = some u ∧ v.Is u := by
    obtain ⟨mm, ⟨o, es, ep, ho, r⟩, hm⟩ := x.ns
    exact ⟨mm, ⟨o, es, ep, gL _ ho, r⟩, hm⟩
  obtain ⟨mm, hn, hm⟩ := hL
  refine ⟨x.ok, x.sta, ⟨mm, hn.keeps y.keep, hm⟩, x.loc, x.nd, fun b o e => y.keep b o (g1 b o e), x.newL, fun a o e => ?_, y.gens, y.os.trans hos, x.gp⟩
  obtain ⟨i, _, n0⟩ := y.heap a o e
  refine ⟨i, fun q => ?_, ?_⟩
  · obtain ⟨oL, _, _, hL, _⟩ := hn
    rw [q, hL] at n0; cases n0
  · cases q : h₀.get? a with
    | none => rfl
    | some o' => rw [g1 a o' q] at n0; cases n0
theorem comp_code {elt target iter : Expr} {scope : Scope} {pos : Pos} {asg : Asg} {S : AHeap → Prop} {Q : AHeap → Prop} {I D : Addr} {k : ItK} {xs : List AV} (hasg : AsgOk F c target asg)
    (x : St F c h₀ m H s) (hI : k.In s.heap I) (hIL : I ≠ c.env.locals) (hIH : H I = none) (hI0 : h₀.get? I = none) (hg : ∀ H', S H' → k.Gives H' xs) (hl : WComp F c asg elt S D Q xs m H) :
    codeC (model F.prog c.w) c.A (.compLoop (.ListComp elt [⟨target, iter, [], 0⟩] scope pos) 0 (.ref I) (.ref D) c.env) (fun r s' => r = .ok .next ∧ ∃ m' H', St F c h₀ m' H' s' ∧ Q H') s := by
  refine codeC_loop rfl rfl (fun n s => ∃ r m H, ∃ k : ItK, n = r.length ∧ St F c h₀ m H s ∧ k.In s.heap I ∧ H I = none ∧ (∀ H', S H' → k.Gives H' r) ∧ WComp F c asg elt S D Q r m H) ?_ xs.length ⟨xs, m, H, k, rfl, x, hI, hIH, hg, hl⟩
  rintro n s ⟨r, m, H, k, rfl, x, hI, hIH, hg, hl⟩
  show wpC _ c.A ((compTurn (.ListComp elt [⟨target, iter, [], 0⟩] scope pos) 0 (.ref I) (.ref D) c.env).onRaise (fun x => do noteFrame x c.env; theTreesLotGoes x)) _ _ s
  have fin : ∀ (E : Value → Shared → Prop), wpC (model F.prog c.w) c.A (compTurn (.ListComp elt [⟨target, iter, [], 0⟩] scope pos) 0 (.ref I) (.ref D) c.env) (fun fin s' =>
      match fin with
      | .done f => (Except.ok f : Result) = .ok .next ∧ ∃ m' H', St F c h₀ m' H' s' ∧ Q H'
      | .again c' => (c' = .compLoop (.ListComp elt [⟨target, iter, [], 0⟩] scope pos) 0 (.ref I) (.ref D) c.env ∧ ∃ m, m < r.length ∧ ∃ r m' H, ∃ k : ItK, m = r.length ∧ St F c h₀ m' H s' ∧ k.In s'.heap I ∧ H I = none ∧ (∀ H', S H' → k.Gives H' r) ∧ WComp F c asg elt S D Q r m' H) ∨
          (c'.quiet = true ∧ codeC (model F.prog c.w) c.A c' (fun r s' => r = .ok .next ∧ ∃ m' H', St F c h₀ m' H' s' ∧ Q H') s')) E s := by
    intro E
    rw [compTurn_list1]
    refine wpC_at ?_
    cases r with
    | nil =>
      refine wpC_bind (wpC_any (next_end x x.ok.hh hI (hg H hl.1) fun h' e' => ?_))
      exact wpC_pure ⟨rfl, m, H, x.extBut e' hIL hIH hI0, hl.2⟩
    | cons v r =>
      refine wpC_bind (wpC_any (next_item x hI (hg H hl.1) fun u h' t iu hI' sb => ?_))
      have y : St F c h₀ m H { s with heap := h', toks := t } := x.sameBut sb hIL hIH hI0
      refine wpC_bind (wpC_any (hasg.2 I u _ hI'.cls _ _ ?_))
      have yl := y.inLoop
      have keepI : ∀ o, h'.get? I = some o → (loopG c H { s with heap := h', toks := t }).get? I = some o := fun o e => loopG_get e hIL hIH
      refine wpC_bind (wpC_mono (hasg.1 v m H _ hl.2 u _ _ iu yl) (fun _ s2 ⟨m2, H2, y2, q2⟩ => ?_) fun _ _ z => z.elim)
      refine wpC_bind (wpC_bind (wpC_mono (q2.run _ _ y2) (fun w s3 ⟨aw, H3, y3, i3, ys, e3, hz, q3⟩ => ?_) fun _ _ z => z.elim))
      have ca : WCall F c (.builtin "list.append") [.ref D, aw] (fun _ H' => H' = H3.set D (.list (ys ++ [aw]))) noX m2 H3 := call_append e3 hz rfl
      refine wpC_bind (wpC_mono ((ca _ [.ref D, w] rfl ⟨rfl, i3, trivial⟩).run _ _ y3) (fun _ s4 ⟨_, H4, y4, _, e4⟩ => ?_) fun _ _ z => z.elim)
      subst e4
      refine wpC_pure ?_
      have z3 := y.outLoop y4
      have hI3 : k.succ.In s4.heap I := hI'.keep fun o e => y4.keep _ _ (keepI o e)
      have hH3 : H3.set D (.list (ys ++ [aw])) I = none := by
        cases q : H3.set D (.list (ys ++ [aw])) I with
        | none => rfl
        | some o =>
          obtain ⟨o', e', _⟩ := hI'.cls
          have := (y4.heap I o q).2.2
          rw [keepI o' e'] at this; cases this
      exact wpC_pure (.inl ⟨rfl, r.length, Nat.lt_succ_self _, r, m2, _, k.succ, rfl, z3, hI3, hH3, fun H' sH => ItK.succ_gives (hg H' sH), q3⟩)
  refine wpC_noted (wpC_mono (fin _) (fun fin s' q => ?_) fun _ _ z => z)
  exact q
theorem iter_self {k : ItK} {I : Addr} {prog : Program} {w : World} {A : Around} {E : Value → Shared → Prop} {Q : Value → Shared → Prop} (hI : k.In s.heap I) (hk : ∀ y i, k ≠ .stra y i ∧ k ≠ .strw y i) (h : Q (.ref I) s) : wpAny (model prog w) A (pyIter (.ref I)) Q E s := by
  cases k with
  | lst a i => exact wpAny_pyIter_listiter hI h
  | rng lo n => exact wpAny_pyIter_rangeiter hI h
  | stra y i => exact absurd rfl (hk y i).1
  | strw y i => exact absurd rfl (hk y i).2
theorem codeC_compStart {prog : Program} {w : World} {A : Around} {R : Result → Shared → Prop} {elt target iter : Expr} {scope : Scope} {pos : Pos} {I : Addr} {acc : Value} {env : Env} {k : ItK} (hI : k.In s.heap I) (hk : ∀ y i, k ≠ .stra y i ∧ k ≠ .strw y i)
    (h0 : codeC (model prog w) A (.compLoop (.ListComp elt [⟨target, iter, [], 0⟩] scope pos) 0 (.ref I) acc env) R s) :
    codeC (model prog w) A (.compStart (.ListComp elt [⟨target, iter, [], 0⟩] scope pos) 0 (.ref I) acc env) R s := by
  refine codeC_of_tree rfl ?_
  show wpC _ A ((compStart (.ListComp elt [⟨target, iter, [], 0⟩] scope pos) 0 (.ref I) acc env).onRaise (fun x => do noteFrame x env; standAt theWindowsPlace)) _ _ s
  have key : ∀ (E : Value → Shared → Prop), wpC (model prog w) A (compStart (.ListComp elt [⟨target, iter, [], 0⟩] scope pos) 0 (.ref I) acc env) (fun fin s' => match fin with | .done f => R (.ok f) s' | .again c' => c'.quiet = true ∧ codeC (model prog w) A c' R s') E s := by
    intro E
    unfold compStart
    show wpC _ _ (ask >>= _) _ _ s
    refine wpC_bind (wpC_any (wpAny_askSetting ?_))
    split
    · first
        | exact wpC_bind (wpC_pure (wpC_pure (And.intro rfl h0)))
        | exact wpC_pure (And.intro rfl h0)
    · have itr : wpC (model prog w) A (pyIter (.ref I)) (fun it' s' => it' = .ref I ∧ s' = s) E s := wpC_any (iter_self hI hk ⟨rfl, rfl⟩)
      first
        | exact wpC_bind (wpC_any (wpAny_rule (wpC_bind (wpC_standAt (wpC_then itr fun it' s' ⟨e1, e2⟩ => by subst e1 e2; exact wpC_pure (And.intro rfl h0))))))
        | (refine wpC_bind (wpC_any (wpAny_rule ?_)); show wpC _ _ (standAt iter.pos >>= _) _ _ s; exact wpC_bind (wpC_standAt (wpC_then itr fun it' s' ⟨e1, e2⟩ => by subst e1 e2; exact wpC_pure (And.intro rfl h0))))
  exact wpC_onRaise (wpC_mono (key _) (fun _ _ q => q) fun _ _ z => z)
end
end Mine
end
section
open PySem PySem.W PyProof.Rows
set_option Elab.async false
set_option linter.unusedVariables false
set_option maxRecDepth 100000
namespace Mine
open Sem (wp)
section
variable {F : FC} {c : Cx} {X : XP} {h₀ : Heap} {m : Loc} {H : AHeap} {s : Shared}
theorem iter_newR {it : AV} {u : Value} {xs : List AV} {S : AHeap → Prop} {prog : Program} {w : World} {A : Around} {E : Value → Shared → Prop} {Q : Value → Shared → Prop} (x : St F c h₀ m H s) (hi : IterOf H it xs S) (iu : it.Is u) (hr : ∃ a, it = .ref a)
    (hQ : ∀ (k : ItK) ob, ob.isFreed = false → (∀ y i, k ≠ .stra y i ∧ k ≠ .strw y i) → k.In (s.heap.push ob) s.heap.objs.size → (∀ H', S H' → k.Gives H' xs) → Q (.ref s.heap.objs.size) { s with heap := s.heap.push ob }) :
    wpAny (model prog w) A (pyIter u) Q E s := by
  cases hi with
  | @list a xs e =>
    obtain rfl : u = .ref a := iu
    obtain ⟨vs, kk, p⟩ := x.list e
    exact wpAny_pyIter_list p.isList (hQ (.lst a 0) _ rfl (fun y i => ⟨fun q => (nomatch q), fun q => (nomatch q)⟩) ⟨_, Heap.get?_push_size _ rfl, rfl, rfl⟩ fun H' e' => ⟨xs, e', Nat.zero_le _, rfl⟩)
  | @range a lo hi e h1 h2 h3 =>
    obtain rfl : u = .ref a := iu
    obtain ⟨⟨ob, g, t1, t2, t3, rfl⟩, _⟩ := x.heap a _ e
    refine wpAny_pyIter_range g (small_one h1 (by lia) (by lia) h3) ?_
    have hz : Builtin.Range.rangeSize lo hi 1 = ((hi - lo).toNat : Nat) := by
      rw [rangeSize_one]; split <;> lia
    rw [hz]
    exact hQ (.rng lo (hi - lo).toNat) _ rfl (fun y i => ⟨fun q => (nomatch q), fun q => (nomatch q)⟩) (Heap.get?_push_size _ rfl) fun H' _ => rfl
  | @str y => obtain ⟨a, q⟩ := hr; cases q
/-- what a comprehension asks of its block -/
structure CompOk (F : FC) (c : Cx) (scope : Scope) (y : Str) : Prop where
  kind : scope.kind = .function
  names : ∀ x ∈ scope.names, x.2 = .local → scope.names.lookup x.1 = some .local
  nocell : ∀ x ∈ scope.names, x.2 ≠ .cell
  var : scope.names.lookup y = some .local
  dbg : (y == ("__debug__" : Str)) = false
  free : ∀ x ∈ scope.names, x.2 = .free → (c.env.cells.lookup x.1).isSome = true
def inF (F : FC) (scope : Scope) : FC := { F with scope := relab scope F.scope }
/-- the block of a comprehension, walked: the shared part of the two roads -/
theorem comp_block {elt iter : Expr} {y : Str} {py : Pos} {scope : Scope} {pos : Pos} {S : AHeap → Prop} {Q : Addr → AHeap → Prop} {xs : List AV} {it : AV} {u : Value} {H₁ : AHeap} (ok : CompOk F c scope y)
    (x : St F c h₀ m H₁ s) (iu : it.Is u) (hi : IterOf H₁ it xs S) (hr : ∃ a, it = .ref a) (sub : H.Sub H₁)
    (hl : ∀ (c' : Cx) D, c'.w = c.w → c'.env.cells = closF c.env.cells scope.names [] → H D = none → WComp (inF F scope) c' (asgN y) elt S D (Q D) xs [(y, none)] (H.set D (.list [])))
    {R : Value → Addr → Result → Shared → Prop} {E : Value → Shared → Prop}
    (hR : ∀ D C s' H', h₀.get? C = none → C ≠ c.env.locals → H' C = none → (∃ mm, s'.heap.Ns C mm) → St F c h₀ m H' s' → Q D H' → R (.ref D) C (.ok .next) s') :
    wpC (model F.prog c.w) c.A (pyIter u) (fun it s₂ => wpC (model F.prog c.w) c.A (newList []) (fun acc s₃ =>
      wpC (model F.prog c.w) c.A (newFunctionEnv scope c.env.globals (closF c.env.cells scope.names []) [] c.env.qual none .none (some c.env)) (fun cenv s₄ =>
        codeC (model F.prog c.w) c.A (.compStart (.ListComp elt [⟨.Name y py, iter, [], 0⟩] scope pos) 0 it acc { cenv with scope := relabel scope c.env }) (R acc cenv.locals) s₄) E s₃) E s₂) E s := by
  refine wpC_any (iter_newR x hi iu hr fun k ob hf hk hI hg => ?_)
  have hI0 : h₀.get? s.heap.objs.size = none := by
    cases q : h₀.get? s.heap.objs.size with
    | none => rfl
    | some o => exact absurd (Heap.lt_size (x.keep _ _ q)) (Nat.lt_irrefl _)
  have hIL : s.heap.objs.size ≠ c.env.locals := fun e => by
    obtain ⟨mm, ⟨oL, es, ep, ho, _⟩, _⟩ := x.ns
    have := Heap.lt_size ho
    rw [← e] at this; exact Nat.lt_irrefl _ this
  have hIH : H₁ s.heap.objs.size = none := by
    cases q : H₁ s.heap.objs.size with
    | none => rfl
    | some o => obtain ⟨⟨ob', g, _⟩, _⟩ := x.heap _ o q; exact absurd (Heap.lt_size g) (Nat.lt_irrefl _)
  generalize hIa : s.heap.objs.size = I at hI0 hIL hIH hI ⊢
  have x2 : St F c h₀ m H { s with heap := s.heap.push ob } := (x.grow (t := s.toks) fun b o e => Heap.get?_push_of_some _ e).weak sub
  generalize hs2 : ({ s with heap := s.heap.push ob } : Shared) = s2 at x2 ⊢
  have hI2 : k.In s2.heap I := by rw [← hs2]; exact hI
  unfold newList
  refine wpC_any ?_
  with_reducible refine wpAny_newObj_type ?_ ?_
  case refine_2 => size_fits
  obtain ⟨x3, hD⟩ := x2.new (o := .list []) (ob := { cls := .type "list", data := .seq ([] : List Value).toArray }) ⟨_, _, rfl, trivial⟩ rfl
  have hDI : s2.heap.objs.size ≠ I := by
    obtain ⟨o, e, _⟩ := hI2.cls
    exact Ne.symm (Nat.ne_of_lt (Heap.lt_size e))
  generalize hDa : s2.heap.objs.size = D at x3 hD hDI ⊢
  generalize hs3 : ({ s2 with heap := s2.heap.push { cls := .type "list", data := .seq ([] : List Value).toArray } } : Shared) = s3 at x3 ⊢
  have hI3 : k.In s3.heap I := hI2.keep fun o e => by rw [← hs3]; exact Heap.get?_push_of_some _ e
  refine wpC_any (wpAny_newFunctionEnv ok.nocell (by intro y hy; cases hy) (fun h' hns sb => ?_) ok.kind)
  generalize hCa : s3.heap.objs.size = C at hns sb ⊢
  have kk : ∀ b ob, s3.heap.get? b = some ob → h'.get? b = some ob := fun b ob e => sb.extBut b ob (by rw [← hCa]; exact Nat.ne_of_lt (Heap.lt_size e)) (Heap.get?_push_of_some _ e)
  have hC3 : s3.heap.get? C = none := by rw [← hCa]; exact Heap.get?_none_of_le (Nat.le_refl _)
  have hIC : I ≠ C := fun q => by
    obtain ⟨o, e, _⟩ := hI3.cls
    rw [q, hC3] at e; cases e
  let H3 := H.set D (.list [])
  have hIH3 : H3 I = none := by
    show H.set D _ I = none
    rw [AHeap.set_ne _ _ (Ne.symm hDI)]; exact sub.none hIH
  let g := hideAll s3.heap (I :: domOf H3 s3.heap.objs.size)
  have gof : ∀ b o, g.get? b = some o → s3.heap.get? b = some o := fun b o e => of_hideAll _ e
  have gget : ∀ b o, s3.heap.get? b = some o → b ≠ I → H3 b = none → g.get? b = some o := fun b o e hb hH => hideAll_get _ e fun q => by
    rcases List.mem_cons.mp q with q | q
    · exact hb q
    · have := (mem_domOf.mp q).2; rw [hH] at this; cases this
  have gI : g.get? I = none := hideAll_none _ List.mem_cons_self
  have gH : ∀ b o, H3 b = some o → g.get? b = none := fun b o e => hideAll_none _ (List.mem_cons_of_mem _ (mem_domOf.mpr ⟨by obtain ⟨⟨ob, gg, _⟩, _⟩ := x3.heap b o e; exact Heap.lt_size gg, by rw [e]; rfl⟩))
  have g1 : ∀ b o, h₀.get? b = some o → g.get? b = some o := fun b o e => gget b o (x3.keep b o e) (fun q => by rw [q, hI0] at e; cases e) (by
    cases q : H3 b with
    | none => rfl
    | some o' => have := (x3.heap b o' q).2.2; rw [e] at this; cases this)
  have gL : ∀ o, s3.heap.get? c.env.locals = some o → g.get? c.env.locals = some o := fun o e => gget _ _ e (Ne.symm hIL) (by
    cases q : H3 c.env.locals with
    | none => rfl
    | some o' => exact absurd rfl (x3.heap _ o' q).2.1)
  have hC0 : h₀.get? C = none := by
    cases q : h₀.get? C with
    | none => rfl
    | some o => rw [x3.keep _ _ q] at hC3; cases hC3
  have hCL : C ≠ c.env.locals := fun q => by
    obtain ⟨mm, ⟨oL, es, ep, ho, _⟩, _⟩ := x3.ns
    rw [← q, hC3] at ho; cases ho
  let env' := compEnvC scope (closF c.env.cells scope.names []) C c.env
  let c' : Cx := { w := c.w, A := c.A, env := env', os := c.os }
  have y0 : St (inF F scope) c' g [(y, none)] H3 { s3 with heap := h', toks := s3.toks + ([] : List (Str × Value)).length } := by
    refine ⟨⟨ok.kind, ?_, x3.ok.glob, x3.ok.bui, x3.ok.hh, x3.ok.depth, x3.ok.units, fun _ _ _ q => q⟩, ⟨x3.sta.K.keeps g1, let ⟨p, l, mg, mb, T⟩ := x3.sta.top; ⟨p, l, mg, mb, T.keeps g1⟩⟩, ⟨_, hns, fun z v hz => ?_⟩, fun z hz => ?_, ?_, fun b ob e => kk b ob (gof b ob e), ?_, fun b ob e => ?_, x3.gens, x3.os, trivial⟩
    · show relabel scope c.env = relab scope F.scope
      rw [relabel_eq, x3.ok.scope]
    · cases hz with
      | tail _ h => cases h
    · obtain rfl : z = y := by simpa using hz
      exact ⟨lookup_relabel_local (env := c.env) ok.var |> fun q => by
        show (relab scope F.scope).names.lookup z = _
        rw [← x3.ok.scope]; exact q, ok.dbg⟩
    · exact List.nodup_cons.mpr ⟨by simp, List.nodup_nil⟩
    · show g.get? C = none
      cases q : g.get? C with
      | none => rfl
      | some ob => rw [gof _ _ q] at hC3; cases hC3
    · obtain ⟨⟨ob', q, i⟩, _, _⟩ := x3.heap b ob e
      refine ⟨⟨ob', kk _ _ q, i⟩, fun qq => ?_, gH b ob e⟩
      rw [show c'.env.locals = C from rfl] at qq
      rw [qq, hC3] at q; cases q
  have code := comp_code (elt := elt) (target := .Name y py) (iter := iter) (scope := scope) (pos := pos) (Q := Q D) (D := D) (asg := asgN y) asgN_ok y0 (hI3.keep fun o e => kk _ _ e) hIC hIH3 gI hg (hl c' D rfl rfl hD)
  refine codeC_compStart (hI3.keep fun o e => kk _ _ e) hk ?_
  intro Γ p hc hΓ h2
  refine wpCode_mono ?_ (code Γ p hc hΓ h2)
  rintro r s' ⟨rfl, m', H', z, q⟩
  have zz := x3.backG z g1 gL rfl
  refine hR D C s' H' hC0 hCL ?_ ?_ zz q
  · cases q : H' C with
    | none => rfl
    | some o => exact absurd rfl (z.heap C o q).2.1
  · obtain ⟨mm, n, _⟩ := z.ns
    exact ⟨mm, n⟩
theorem WE_ListComp {elt iter : Expr} {y : Str} {py : Pos} {scope : Scope} {pos : Pos} {Q : AV → AHeap → Prop} (ok : CompOk F c scope y)
    (h : WE F c iter (fun it H => ∃ xs, ∃ S : AHeap → Prop, ∃ H' : AHeap, IterOf H it xs S ∧ (∃ a, it = .ref a) ∧ H'.Sub H ∧
      ∀ (c' : Cx) D, c'.w = c.w → c'.env.cells = closF c.env.cells scope.names [] → H' D = none → WComp (inF F scope) c' (asgN y) elt S D (fun H => Q (.ref D) H) xs [(y, none)] (H'.set D (.list []))) X m H)
    (hs : ∀ x, foldedSetIterable iter c.env x = pure x := by intro _; rfl) : WE F c (.ListComp elt [⟨.Name y py, iter, [], 0⟩] scope pos) Q X m H := .mk fun h₀ s x => by
  rw [eval_ListComp]
  refine wpC_comprehension (use := none) rfl hs (closureFor_of ok.free) ok.kind ok.names ?_
  refine wpC_mono (h.run h₀ s x) (fun u s1 ⟨it, H1, x1, i1, xs, S, H', hi, hr, sub, hl⟩ => ?_) fun _ _ z => z
  refine comp_block (Q := fun D H => Q (.ref D) H) ok x1 i1 hi hr sub hl ?_
  intro D C s' H'' hC0 hCL hCH hn z q
  obtain ⟨mm, n⟩ := hn
  exact ⟨mm, n, fun h' sb => ⟨.ref D, H'', z.sameBut (t := s'.toks) sb hCL hCH hC0, rfl, q⟩⟩
/-- `y = [.. for ..]`: the store before the block's variables are let go -/
theorem WS_AssignComp {elt iter : Expr} {y z : Str} {py pz : Pos} {scope : Scope} {pos spos : Pos} {Q : AFlow → Loc → AHeap → Prop} (ok : CompOk F c scope y)
    (h : WE F c iter (fun it H => ∃ xs, ∃ S : AHeap → Prop, ∃ H' : AHeap, IterOf H it xs S ∧ (∃ a, it = .ref a) ∧ H'.Sub H ∧
      ∀ (c' : Cx) D, c'.w = c.w → c'.env.cells = closF c.env.cells scope.names [] → H' D = none → WComp (inF F scope) c' (asgN y) elt S D (fun H => putQ m z Q (.ref D) H) xs [(y, none)] (H'.set D (.list []))) X m H)
    (hsw : ∀ env : Env, env.scope = F.scope → swapsWith (.ListComp elt [⟨.Name y py, iter, [], 0⟩] scope pos) (some (.Name z pz)) spos.line env = pure true)
    (hs : ∀ x, foldedSetIterable iter c.env x = pure x := by intro _; rfl) : WS F c (.Assign [.Name z pz] (.ListComp elt [⟨.Name y py, iter, [], 0⟩] scope pos) spos) Q X m H := .mk fun h₀ s x => by
  rw [exec_Assign_Name_used _ _ _ _ (hsw _ x.ok.scope)]
  refine wpC_at (wpC_bind ?_)
  show wpC _ _ (do let _ ← comprehension (.ListComp elt [⟨.Name y py, iter, [], 0⟩] scope pos) scope c.env _ (newList []) false (eval iter c.env) (some (assign (.Name z pz) c.env))) _ _ s
  refine wpC_bind (wpC_comprehension (use := some (assign (.Name z pz) c.env)) (Q := fun _ s' => PU F c h₀ (Q .next) s') rfl hs (closureFor_of ok.free) ok.kind ok.names ?_ |> fun q => wpC_mono q (fun _ s' ⟨m', H', z, q⟩ => wpC_pure (wpC_pure ⟨.next, m', H', z, rfl, q⟩)) fun _ _ z => z)
  refine wpC_mono (h.run h₀ s x) (fun u s1 ⟨it, H1, x1, i1, xs, S, H', hi, hr, sub, hl⟩ => ?_) fun _ _ z => z
  refine comp_block (Q := fun D H => putQ m z Q (.ref D) H) ok x1 i1 hi hr sub hl ?_
  intro D C s' H'' hC0 hCL hCH hn zz q
  obtain ⟨mm, n⟩ := hn
  obtain ⟨m', hp, q⟩ := q
  obtain ⟨oC, es, ep, ho, r⟩ := n
  refine wpC_any (assign_local zz.inLoop hp rfl fun s'' x'' => ?_)
  have hoC : s''.heap.get? C = some oC := x''.keep _ _ (loopG_get ho hCL hCH)
  refine ⟨mm, ⟨oC, es, ep, hoC, r⟩, fun h' sb => ⟨m', H'', (zz.outLoop x'').sameBut (t := s''.toks) sb hCL hCH hC0, q⟩⟩
end
end Mine
end
section
open PySem PySem.W PyProof.Rows
set_option Elab.async false
set_option linter.unusedVariables false
set_option maxRecDepth 100000
namespace Mine
section
variable {F : FC} {c : Cx} {X : XP} {m : Loc} {H : AHeap}
theorem WE_callG {name : Str} {a : Addr} {p pos : Pos} {args : List Expr} {Q : AV → AHeap → Prop} (g : nsIn (F.K c.w.params) mainGlobals name = some (some (.ref a))) (o : ∃ o fd, (F.K c.w.params).lookup a = some o ∧ o.data = .func fd)
    (hx : F.scope.names.lookup name = some .globalImplicit) (hd : (name == ("__debug__" : Str)) = false) (h : WSpl F c pos args (fun as H => WCall F c (.ref a) as Q X m H) X m H)
    (he : eval (.Call (.Name name p) args [] pos) c.env = (do callWith pos (← eval (.Name name p) c.env) [] (backTo pos (starEach args c.env)) []) := by rfl)
    (hs : args.all (fun e => !isStarred e) = true := by rfl) (hn : args.length ≤ 30 := by decide) : WE F c (.Call (.Name name p) args [] pos) Q X m H :=
  WE_Call (WE_global (v := .ref a) hx g rfl ⟨let ⟨_, _, h1, h2⟩ := o; .fn h1 h2, h⟩ hd) he hs hn
theorem WE_callB {name : Str} {v : String} {p pos : Pos} {args : List Expr} {Q : AV → AHeap → Prop} (b : bootBuiltins name = some (.builtin v)) (n : nsIn (F.K c.w.params) mainGlobals name = some none)
    (hx : F.scope.names.lookup name = some .globalImplicit) (hn1 : name ≠ "__name__") (hd : (name == ("__debug__" : Str)) = false) (h : WSpl F c pos args (fun as H => WCall F c (.builtin v) as Q X m H) X m H)
    (he : eval (.Call (.Name name p) args [] pos) c.env = (do callWith pos (← eval (.Name name p) c.env) [] (backTo pos (starEach args c.env)) []) := by rfl)
    (hs : args.all (fun e => !isStarred e) = true := by rfl) (hn : args.length ≤ 30 := by decide) : WE F c (.Call (.Name name p) args [] pos) Q X m H :=
  WE_Call (WE_builtin (v := .builtin v) hx n b rfl ⟨.builtin v, h⟩ hn1 hd) he hs hn
theorem WE_callT {name : Str} {v : String} {p pos : Pos} {args : List Expr} {Q : AV → AHeap → Prop} (b : bootBuiltins name = some (.type v)) (n : nsIn (F.K c.w.params) mainGlobals name = some none)
    (hx : F.scope.names.lookup name = some .globalImplicit) (hn1 : name ≠ "__name__") (hd : (name == ("__debug__" : Str)) = false) (h : WSpl F c pos args (fun as H => WCall F c (.type v) as Q X m H) X m H)
    (he : eval (.Call (.Name name p) args [] pos) c.env = (do callWith pos (← eval (.Name name p) c.env) [] (backTo pos (starEach args c.env)) []) := by rfl)
    (hs : args.all (fun e => !isStarred e) = true := by rfl) (hn : args.length ≤ 30 := by decide) : WE F c (.Call (.Name name p) args [] pos) Q X m H :=
  WE_Call (WE_builtin (v := .type v) hx n b rfl ⟨.type v, h⟩ hn1 hd) he hs hn
theorem WE_nameT {name : Str} {v : String} {p : Pos} {Q : AV → AHeap → Prop} (b : bootBuiltins name = some (.type v)) (n : nsIn (F.K c.w.params) mainGlobals name = some none)
    (hx : F.scope.names.lookup name = some .globalImplicit) (hn1 : name ≠ "__name__") (hd : (name == ("__debug__" : Str)) = false) (h : Q (.type v) H) : WE F c (.Name name p) Q X m H :=
  WE_builtin (v := .type v) hx n b rfl h hn1 hd
theorem WE_gint {name : Str} {i : Int} {p : Pos} {Q : AV → AHeap → Prop} (g : ∃ t, nsIn (F.K c.w.params) mainGlobals name = some (some (.int i t)))
    (hx : F.scope.names.lookup name = some .globalImplicit) (hd : (name == ("__debug__" : Str)) = false) (h : Q (.int i) H) : WE F c (.Name name p) Q X m H :=
  let ⟨t, g⟩ := g; WE_global (v := .int i) hx g ⟨t, rfl⟩ h hd
theorem WE_gstr {name : Str} {i : Str} {p : Pos} {Q : AV → AHeap → Prop} (g : ∃ t, nsIn (F.K c.w.params) mainGlobals name = some (some (.str i t)))
    (hx : F.scope.names.lookup name = some .globalImplicit) (hd : (name == ("__debug__" : Str)) = false) (h : Q (.str i) H) : WE F c (.Name name p) Q X m H :=
  let ⟨t, g⟩ := g; WE_global (v := .str i) hx g ⟨t, rfl⟩ h hd
theorem WE_gref {name : Str} {a : Addr} {p : Pos} {Q : AV → AHeap → Prop} (g : nsIn (F.K c.w.params) mainGlobals name = some (some (.ref a)))
    (hx : F.scope.names.lookup name = some .globalImplicit) (hd : (name == ("__debug__" : Str)) = false) (h : Q (.ref a) H) : WE F c (.Name name p) Q X m H :=
  WE_global (v := .ref a) hx g rfl h hd
theorem seq_next {rest : List Stmt} {Q : AFlow → Loc → AHeap → Prop} (h : WSs F c rest Q X m H) : seqQ F c rest Q X .next m H := h
theorem seq_ret {rest : List Stmt} {v : AV} {Q : AFlow → Loc → AHeap → Prop} (h : Q (.ret v) m H) : seqQ F c rest Q X (.ret v) m H := h
theorem seq_brk {rest : List Stmt} {Q : AFlow → Loc → AHeap → Prop} (h : Q .brk m H) : seqQ F c rest Q X .brk m H := h
theorem ret_ret {v : AV} {Q : AV → AHeap → Prop} (h : ∃ H', H'.Sub H ∧ Q v H') : retQ Q (.ret v) m H := h
theorem ret_next {Q : AV → AHeap → Prop} (h : ∃ H', H'.Sub H ∧ Q .none H') : retQ Q .next m H := h
theorem loop_next {I : Loc → AHeap → Prop} {Q : AFlow → Loc → AHeap → Prop} (h : I m H) : loopQ I Q .next m H := h
theorem loop_ret {I : Loc → AHeap → Prop} {v : AV} {Q : AFlow → Loc → AHeap → Prop} (h : Q (.ret v) m H) : loopQ I Q (.ret v) m H := h
theorem put_k {x : Str} {v : AV} {m' : Loc} {P : Loc → Prop} (hp : Put m x v m') (h : P m') : ∃ m', Put m x v m' ∧ P m' := ⟨m', hp, h⟩
theorem putq_k {x : Str} {v : AV} {m' : Loc} {Q : AFlow → Loc → AHeap → Prop} (hp : Put m x v m') (h : Q .next m' H) : putQ m x Q v H := ⟨m', hp, h⟩
theorem none_k {Q : AFlow → Loc → AHeap → Prop} (h : Q .next m H) : noneQ m Q .none H := ⟨rfl, h⟩
theorem WB_bool {b : Bool} {k : Nat} {pos : Pos} {Q : Bool → AHeap → Prop} (h : Q b H) : WB F c (.Constant (.bool b) k pos) Q X m H :=
  WB_val (WE_bool ⟨b, rfl, h⟩)
-- numbers that are no less than 0
theorem bits_le {n m : Nat} (h : n < 2 ^ m) : Builtin.Int.intBits (n : Int) ≤ m := by
  rw [intBits_le_iff]; simpa using h
theorem bitOr_nat (a b : Nat) : Builtin.bitOr (a : Int) (b : Int) = ((a ||| b : Nat) : Int) := by
  have nn : ∀ x : Int, Builtin.bitNot (Builtin.bitNot x) = x := fun x => by unfold Builtin.bitNot; lia
  have hx : ∀ n : Nat, ¬ 0 ≤ Builtin.bitNot (n : Int) := fun n => by unfold Builtin.bitNot; lia
  unfold Builtin.bitOr
  rw [bitAnd_nn (hx a) (hx b), nn, nn, nn, Int.toNat_natCast, Int.toNat_natCast]
theorem bitAnd_nat (a b : Nat) : Builtin.bitAnd (a : Int) (b : Int) = ((a &&& b : Nat) : Int) := by simp [Builtin.bitAnd]
theorem or_add {a b i : Nat} (ha : a % 2 ^ i = 0) (hb : b < 2 ^ i) : a ||| b = a + b := by
  have : a = 2 ^ i * (a / 2 ^ i) := by
    have := Nat.div_add_mod a (2 ^ i); lia
  rw [this, ← Nat.two_pow_add_eq_or_of_lt hb]
section
variable {Q : AV → AHeap → Prop} {n : Nat} {aa bb : Int}
theorem shr_nat (n k : Nat) : (n : Int) / 2 ^ k = ((n / 2 ^ k : Nat) : Int) := by push_cast; rfl
theorem op_shrN (k M : Nat) (h : Q (.int (n / M : Nat)) H) (e : bb = k := by rfl) (hM : 2 ^ k = M := by rfl) : WOp F c .RShift (.int n) (.int bb) Q X m H := by
  subst e hM
  refine op_shr (by lia) ?_
  rw [Int.toNat_natCast, shr_nat]; exact h
theorem iop_shrN (k M : Nat) (h : Q (.int (n / M : Nat)) H) (e : bb = k := by rfl) (hM : 2 ^ k = M := by rfl) : WIop F c .RShift (.int n) (.int bb) Q X m H := by
  subst e hM
  refine iop_shr (by lia) ?_
  rw [Int.toNat_natCast, shr_nat]; exact h
theorem op_shlN (k M : Nat) (hn : n < 2 ^ 64) (h : Q (.int (n * M : Nat)) H) (e : bb = k := by rfl) (hM : 2 ^ k = M := by rfl) (hk : k ≤ 64 := by decide) : WOp F c .LShift (.int n) (.int bb) Q X m H := by
  subst e hM
  refine op_shl (by lia) (by have := bits_le hn; lia) ?_
  rw [Int.toNat_natCast]
  have e : (n : Int) * 2 ^ k = ((n * 2 ^ k : Nat) : Int) := by push_cast; rfl
  rw [e]; exact h
theorem op_modN (b : Nat) (hb : 0 < b) (h : Q (.int (n % b : Nat)) H) (e : bb = b := by rfl) : WOp F c .Mod (.int n) (.int bb) Q X m H := by
  subst e
  refine op_mod (by lia) ?_
  rw [← Int.natCast_emod]; exact h
theorem op_divN (b : Nat) (hb : 0 < b) (hs : b < 1073741824) (h : Q (.int (n / b : Nat)) H) (e : bb = b := by rfl) : WOp F c .FloorDiv (.int n) (.int bb) Q X m H := by
  subst e
  refine op_div (by lia) (by lia) ?_
  rw [← Int.natCast_ediv]; exact h
theorem op_addN (b : Nat) (h : Q (.int (n + b : Nat)) H) (e : bb = b := by rfl) : WOp F c .Add (.int n) (.int bb) Q X m H := by
  subst e
  refine op_add ?_
  rw [← Int.natCast_add]; exact h
theorem iop_addN (b : Nat) (h : Q (.int (n + b : Nat)) H) (e : bb = b := by rfl) : WIop F c .Add (.int n) (.int bb) Q X m H := by
  subst e
  refine iop_add ?_
  rw [← Int.natCast_add]; exact h
theorem op_andN (k M : Nat) (h : Q (.int (n % M : Nat)) H) (e : bb = ((M - 1 : Nat) : Int) := by rfl) (hM : 2 ^ k = M := by rfl) : WOp F c .BitAnd (.int n) (.int bb) Q X m H := by
  subst e hM
  refine op_and ?_
  rw [bitAnd_nat, Nat.and_two_pow_sub_one_eq_mod]; exact h
theorem op_orN (a b i : Nat) (ha : a % 2 ^ i = 0) (hb : b < 2 ^ i) (h : Q (.int (a + b : Nat)) H) (e1 : aa = a := by rfl) (e2 : bb = b := by rfl) : WOp F c .BitOr (.int aa) (.int bb) Q X m H := by
  subst e1 e2
  refine op_or ?_
  rw [bitOr_nat, or_add ha hb]; exact h
theorem op_orN' (a b i : Nat) (ha : a < 2 ^ i) (hb : b % 2 ^ i = 0) (h : Q (.int (a + b : Nat)) H) (e1 : aa = a := by rfl) (e2 : bb = b := by rfl) : WOp F c .BitOr (.int aa) (.int bb) Q X m H := by
  subst e1 e2
  refine op_or ?_
  rw [bitOr_nat, Nat.or_comm, or_add hb ha, Nat.add_comm]; exact h
theorem op_powN (a k M : Nat) (h : Q (.int (M : Nat)) H) (e1 : aa = a := by rfl) (e2 : bb = k := by rfl) (hM : a ^ k = M := by rfl) (ha : a < 2 ^ 64 := by decide) (hk : k ≤ 1000 := by decide) : WOp F c .Pow (.int aa) (.int bb) Q X m H := by
  subst e1 e2 hM
  refine op_pow (by omega) (by have := bits_le ha; have h2 : Builtin.Int.intBits (a : Int) * (k : Int) ≤ 64 * 1000 := by
                                 have := Nat.mul_le_mul this hk
                                 exact_mod_cast this
                               lia) ?_
  rw [Int.toNat_natCast]
  have e : (a : Int) ^ k = ((a ^ k : Nat) : Int) := by push_cast; rfl
  rw [e]; exact h
theorem op_mulN (a b : Nat) (ha : b < 2 ^ 64) (h : Q (.int (a * b : Nat)) H) (e1 : aa = a := by rfl) (e2 : bb = b := by rfl) : WOp F c .Mult (.int aa) (.int bb) Q X m H := by
  subst e1 e2
  refine op_mul (.inr (bits_le ha)) ?_
  rw [← Int.natCast_mul]; exact h
end
end
end Mine
end
section
namespace Mine
def vtail (r : Nat) (acc : List Nat) : List Nat := if h : 0 < r then vtail (r / 128) ((128 + r % 128) :: acc) else acc
termination_by r
decreasing_by omega
def v8 : Nat → Nat → List Nat → List Nat
  | 0, _, acc => acc
  | k + 1, r, acc => v8 k (r / 128) ((128 + r % 128) :: acc)
def varint (n : Nat) : List Nat := if n < 72057594037927936 then vtail (n / 128) [n % 128] else v8 8 (n / 256) [n % 256]
theorem vtail_zero (acc : List Nat) : vtail 0 acc = acc := by rw [vtail]; rfl
theorem vtail_pos {r : Nat} (h : 0 < r) (acc : List Nat) : vtail r acc = vtail (r / 128) ((128 + r % 128) :: acc) := by rw [vtail, dif_pos h]
theorem vtail_app (r : Nat) : ∀ acc xs : List Nat, vtail r (acc ++ xs) = vtail r acc ++ xs := by
  induction r using Nat.strongRecOn with
  | ind r ih =>
    intro acc xs
    by_cases h : 0 < r
    · rw [vtail_pos h, vtail_pos h, ← ih (r / 128) (by lia)]; rfl
    · have : r = 0 := by lia
      subst this
      rw [vtail_zero, vtail_zero]
theorem vtail_eq (r : Nat) (xs : List Nat) : vtail r xs = vtail r [] ++ xs := vtail_app r [] xs
theorem hi_pos {r : Nat} (h : 0 < r) : vtail r [] = vtail (r / 128) [] ++ [128 + r % 128] := by rw [vtail_pos h, vtail_eq]
theorem v8_app : ∀ (k r : Nat) (acc xs : List Nat), v8 k r (acc ++ xs) = v8 k r acc ++ xs
  | 0, _, _, _ => rfl
  | k + 1, r, acc, xs => v8_app k (r / 128) ((128 + r % 128) :: acc) xs
theorem v8_eq (k r : Nat) (xs : List Nat) : v8 k r xs = v8 k r [] ++ xs := v8_app k r [] xs
theorem v8_succ (k r : Nat) : v8 (k + 1) r [] = v8 k (r / 128) [] ++ [128 + r % 128] := by rw [v8, v8_eq]
theorem v8_length : ∀ k r : Nat, (v8 k r []).length = k
  | 0, _ => rfl
  | k + 1, r => by rw [v8_succ, List.length_append, v8_length k]; rfl
theorem hi_length (j : Nat) : ∀ r, r < 128 ^ j → (vtail r []).length ≤ j := by
  induction j with
  | zero => intro r h; have : r = 0 := by simpa using h
            subst this; rw [vtail_zero]; exact Nat.le_refl _
  | succ j ih =>
    intro r h
    by_cases h0 : 0 < r
    · rw [hi_pos h0, List.length_append]
      have := ih (r / 128) (by rw [Nat.pow_succ] at h; exact Nat.div_lt_of_lt_mul (by rw [Nat.mul_comm]; exact h))
      simp; lia
    · have : r = 0 := by lia
      subst this; rw [vtail_zero]; simp
theorem hi_pos_length {r : Nat} (h : 0 < r) : 0 < (vtail r []).length := by rw [hi_pos h, List.length_append]; simp
theorem vtail_lt (r : Nat) : ∀ acc : List Nat, (∀ n ∈ acc, n < 256) → ∀ n ∈ vtail r acc, n < 256 := by
  induction r using Nat.strongRecOn with
  | ind r ih =>
    intro acc ha
    by_cases h : 0 < r
    · rw [vtail_pos h]
      refine ih (r / 128) (by lia) _ fun n hn => ?_
      rcases List.mem_cons.mp hn with rfl | hn
      · lia
      · exact ha n hn
    · have : r = 0 := by lia
      subst this; rw [vtail_zero]; exact ha
theorem v8_lt : ∀ (k r : Nat) (acc : List Nat), (∀ n ∈ acc, n < 256) → ∀ n ∈ v8 k r acc, n < 256
  | 0, _, _, ha => ha
  | k + 1, r, acc, ha => v8_lt k (r / 128) _ fun n hn => by
    rcases List.mem_cons.mp hn with rfl | hn
    · lia
    · exact ha n hn
theorem varint_lt (n : Nat) : ∀ b ∈ varint n, b < 256 := by
  unfold varint
  split
  · exact vtail_lt _ _ fun b hb => by rw [List.mem_singleton.mp hb]; lia
  · exact v8_lt _ _ _ fun b hb => by rw [List.mem_singleton.mp hb]; lia
theorem varint_length_le (n : Nat) : (varint n).length ≤ 9 := by
  unfold varint
  split
  · rename_i h
    rw [vtail_eq, List.length_append]
    have := hi_length 7 (n / 128) (by lia)
    simp; lia
  · rw [v8_eq, List.length_append, v8_length]; simp
theorem varint_length_pos (n : Nat) : 1 ≤ (varint n).length := by
  unfold varint
  split
  · rw [vtail_eq, List.length_append]; simp
  · rw [v8_eq, List.length_append]; simp
theorem varint_one {n : Nat} (h : n < 128) : varint n = [n] := by
  unfold varint
  rw [if_pos (by lia), show n / 128 = 0 by lia, vtail_zero, show n % 128 = n by lia]
theorem varint_two {n : Nat} (h : 128 ≤ n) (h2 : n < 16384) : (varint n).length = 2 := by
  unfold varint
  rw [if_pos (by lia), vtail_pos (by lia), show n / 128 / 128 = 0 by lia, vtail_zero]
  rfl
theorem varint_many {n : Nat} (h : 128 ≤ n) : 2 ≤ (varint n).length := by
  unfold varint
  split
  · rw [vtail_eq, List.length_append]
    have := hi_pos_length (r := n / 128) (by lia)
    simp; lia
  · rw [v8_eq, List.length_append, v8_length]; simp
/-- reading: so many turns are left -/
def getV : Nat → Nat → List Nat → Nat → Option (Nat × Nat)
  | 0, _, _, _ => none
  | _ + 1, _, [], _ => none
  | k + 1, num, b :: bs, at' => if k = 0 then some (num * 256 + b, at' + 1) else if b < 128 then some (num * 128 + b % 128, at' + 1) else getV k (num * 128 + b % 128) bs (at' + 1)
theorem getV_hi (r : Nat) : ∀ (t : Nat) (xs : List Nat) (a : Nat), (vtail r []).length < t → getV t 0 (vtail r [] ++ xs) a = getV (t - (vtail r []).length) r xs (a + (vtail r []).length) := by
  induction r using Nat.strongRecOn with
  | ind r ih =>
    intro t xs a hl
    by_cases h : 0 < r
    · rw [hi_pos h] at hl ⊢
      rw [List.length_append] at hl ⊢
      simp only [List.length_cons, List.length_nil] at hl ⊢
      rw [List.append_assoc, ih (r / 128) (by lia) t _ a (by lia)]
      generalize (vtail (r / 128) []).length = l at hl ⊢
      obtain ⟨k, hk⟩ : ∃ k, t - l = k + 2 := ⟨t - l - 2, by lia⟩
      have e2 : t - (l + (0 + 1)) = k + 1 := by lia
      rw [hk, e2]
      show (if k + 1 = 0 then _ else if 128 + r % 128 < 128 then _ else getV (k + 1) (r / 128 * 128 + (128 + r % 128) % 128) xs (a + l + 1)) = _
      rw [if_neg (by lia), if_neg (by lia)]
      have e3 : r / 128 * 128 + (128 + r % 128) % 128 = r := by lia
      rw [e3]; rfl
    · have : r = 0 := by lia
      subst this
      rw [vtail_zero]; rfl
theorem getV_v8 : ∀ (k t r : Nat) (xs : List Nat) (a : Nat), k < t → r < 128 ^ k → getV t 0 (v8 k r [] ++ xs) a = getV (t - k) r xs (a + k)
  | 0, t, r, xs, a, _, hr => by
    have : r = 0 := by simpa using hr
    subst this; rfl
  | k + 1, t, r, xs, a, hk, hr => by
    rw [v8_succ, List.append_assoc, getV_v8 k t (r / 128) _ a (by lia) (by rw [Nat.pow_succ] at hr; exact Nat.div_lt_of_lt_mul (by rw [Nat.mul_comm]; exact hr))]
    obtain ⟨j, hj⟩ : ∃ j, t - k = j + 2 := ⟨t - k - 2, by lia⟩
    have e2 : t - (k + 1) = j + 1 := by lia
    rw [hj, e2]
    show (if j + 1 = 0 then _ else if 128 + r % 128 < 128 then _ else getV (j + 1) (r / 128 * 128 + (128 + r % 128) % 128) xs (a + k + 1)) = _
    rw [if_neg (by lia), if_neg (by lia)]
    have e3 : r / 128 * 128 + (128 + r % 128) % 128 = r := by lia
    rw [e3]; rfl
theorem getV_varint {n : Nat} (hn : n < 18446744073709551616) (rest : List Nat) (a : Nat) : getV 9 0 (varint n ++ rest) a = some (n, a + (varint n).length) := by
  unfold varint
  split
  · rename_i h
    have hl := hi_length 7 (n / 128) (by lia)
    rw [vtail_eq, List.append_assoc, getV_hi _ _ _ _ (by lia), List.length_append]
    generalize (vtail (n / 128) []).length = l at hl ⊢
    obtain ⟨k, hk⟩ : ∃ k, 9 - l = k + 2 := ⟨9 - l - 2, by lia⟩
    rw [hk]
    show (if k + 1 = 0 then _ else if n % 128 < 128 then some (n / 128 * 128 + n % 128 % 128, a + l + 1) else _) = _
    rw [if_neg (by lia), if_pos (by lia)]
    have : n / 128 * 128 + n % 128 % 128 = n := by lia
    rw [this]; rfl
  · rw [v8_eq, List.append_assoc, getV_v8 8 9 _ _ _ (by lia) (by lia), List.length_append, v8_length]
    show (if 0 = 0 then some (n / 256 * 256 + n % 256, a + 8 + 1) else _) = _
    rw [if_pos rfl]
    have : n / 256 * 256 + n % 256 = n := by lia
    rw [this]; rfl
-- whole numbers of a fixed size
def fix : Nat → Nat → List Nat → List Nat
  | 0, _, acc => acc
  | k + 1, r, acc => fix k (r / 256) (r % 256 :: acc)
def unfix (a : Nat) (l : List Nat) : Nat := l.foldl (fun a b => a * 256 + b) a
theorem fix_app : ∀ (k r : Nat) (acc xs : List Nat), fix k r (acc ++ xs) = fix k r acc ++ xs
  | 0, _, _, _ => rfl
  | k + 1, r, acc, xs => fix_app k (r / 256) (r % 256 :: acc) xs
theorem fix_eq (k r : Nat) (xs : List Nat) : fix k r xs = fix k r [] ++ xs := fix_app k r [] xs
theorem fix_succ (k r : Nat) : fix (k + 1) r [] = fix k (r / 256) [] ++ [r % 256] := by rw [fix, fix_eq]
theorem fix_length : ∀ k r : Nat, (fix k r []).length = k
  | 0, _ => rfl
  | k + 1, r => by rw [fix_succ, List.length_append, fix_length k]; rfl
theorem fix_lt : ∀ (k r : Nat) (acc : List Nat), (∀ n ∈ acc, n < 256) → ∀ n ∈ fix k r acc, n < 256
  | 0, _, _, ha => ha
  | k + 1, r, acc, ha => fix_lt k (r / 256) _ fun n hn => by
    rcases List.mem_cons.mp hn with rfl | hn
    · lia
    · exact ha n hn
theorem unfix_fix : ∀ (k r : Nat), r < 256 ^ k → unfix 0 (fix k r []) = r
  | 0, r, h => by
    have : r = 0 := by simpa using h
    subst this; rfl
  | k + 1, r, h => by
    rw [fix_succ]
    unfold unfix
    rw [List.foldl_append]
    have := unfix_fix k (r / 256) (by rw [Nat.pow_succ] at h; exact Nat.div_lt_of_lt_mul (by rw [Nat.mul_comm]; exact h))
    unfold unfix at this
    rw [this]
    show r / 256 * 256 + r % 256 = r
    lia
theorem unfix_lt : ∀ (l : List Nat) (a : Nat), (∀ n ∈ l, n < 256) → unfix a l < (a + 1) * 256 ^ l.length
  | [], a, _ => by simp [unfix]
  | b :: l, a, h => by
    have h1 := unfix_lt l (a * 256 + b) fun n hn => h n (List.mem_cons_of_mem _ hn)
    have h2 := h b List.mem_cons_self
    show unfix (a * 256 + b) l < _
    rw [List.length_cons, Nat.pow_succ]
    have h3 : (a * 256 + b + 1) * 256 ^ l.length ≤ ((a + 1) * 256) * 256 ^ l.length := Nat.mul_le_mul_right _ (by lia)
    have h4 : (a + 1) * 256 * 256 ^ l.length = (a + 1) * (256 ^ l.length * 256) := by rw [Nat.mul_assoc, Nat.mul_comm 256]
    lia
-- utf-8
def enc (c : Nat) : List Nat :=
  if c < 128 then [c] else if c < 2048 then [192 + c / 64, 128 + c % 64] else if c < 65536 then [224 + c / 4096, 128 + c / 64 % 64, 128 + c % 64]
  else [240 + c / 262144, 128 + c / 4096 % 64, 128 + c / 64 % 64, 128 + c % 64]
def encs (cs : List Nat) : List Nat := cs.flatMap enc
theorem enc_lt {c : Nat} (h : c < 1114112) : ∀ b ∈ enc c, b < 256 := by
  intro b hb
  unfold enc at hb
  split at hb
  · simp at hb; lia
  · split at hb
    · simp at hb; lia
    · split at hb
      · simp at hb; lia
      · simp at hb; lia
theorem enc_length (c : Nat) : 1 ≤ (enc c).length ∧ (enc c).length ≤ 4 := by
  unfold enc
  split
  · simp
  · split
    · simp
    · split <;> simp
theorem encs_lt {cs : List Nat} (h : ∀ c ∈ cs, c < 1114112) : ∀ b ∈ encs cs, b < 256 := by
  intro b hb
  obtain ⟨c, hc, hb⟩ := List.mem_flatMap.mp hb
  exact enc_lt (h c hc) b hb
theorem encs_length_le : ∀ cs : List Nat, (encs cs).length ≤ 4 * cs.length
  | [] => Nat.le_refl _
  | c :: cs => by
    have := encs_length_le cs
    have := (enc_length c).2
    show (enc c ++ encs cs).length ≤ _
    rw [List.length_append, List.length_cons]; lia
end Mine
end
section
open PySem PySem.W PyProof.Rows
set_option Elab.async false
set_option linter.unusedVariables false
set_option maxRecDepth 100000
namespace Mine
def rg (a n : Nat) : List AV := (List.range' a n).map fun k : Nat => AV.int (k : Int)
theorem rg_zero (a : Nat) : rg a 0 = [] := rfl
theorem rg_succ (a n : Nat) : rg a (n + 1) = AV.int (a : Nat) :: rg (a + 1) n := rfl
theorem rg_cons {a n : Nat} {v : AV} {r : List AV} (h : v :: r = rg a n) : ∃ k, n = k + 1 ∧ v = AV.int (a : Nat) ∧ r = rg (a + 1) k := by
  cases n with
  | zero => cases h
  | succ k => rw [rg_succ] at h; injection h with h1 h2; exact ⟨k, rfl, h1, h2⟩
theorem rg_nil {a n : Nat} (h : [] = rg a n) : n = 0 := by
  cases n with
  | zero => rfl
  | succ k => cases h
theorem rg_eq (a n : Nat) : (List.range n).map (fun k : Nat => AV.int ((a : Nat) + (k : Nat) : Int)) = rg a n := by
  unfold rg
  rw [List.range'_eq_map_range, List.map_map]
  refine List.map_congr_left fun k _ => ?_
  show AV.int _ = AV.int _
  rw [← Int.natCast_add]
section
variable {F : FC} {c : Cx} {X : XP} {m : Loc} {H : AHeap}
theorem loopQ_mono {I J : Loc → AHeap → Prop} {Q : AFlow → Loc → AHeap → Prop} (h : ∀ m H, I m H → J m H) : ∀ f m H, loopQ I Q f m H → loopQ J Q f m H := by
  intro f m H q
  cases f with
  | next => exact h _ _ q
  | cont => exact h _ _ q
  | brk => exact q
  | ret v => exact q
def AsgMono (asg : Asg) : Prop := ∀ v m H k k', (∀ m H, k m H → k' m H) → asg v m H k → asg v m H k'
theorem asgN_mono {y : Str} : AsgMono (asgN y) := fun v m H k k' h ⟨m', hp, q⟩ => ⟨m', hp, h _ _ q⟩
theorem asgT_mono {ys : List Str} : AsgMono (asgT ys) := fun v m H k k' h ⟨xs, m', h1, h2, h3, q⟩ => ⟨xs, m', h1, h2, h3, h _ _ q⟩
theorem WLoop_ind {asg : Asg} {body : List Stmt} {S : AHeap → Prop} {Q : AFlow → Loc → AHeap → Prop} {xs : List AV} (hm : AsgMono asg) (I : List AV → Loc → AHeap → Prop) (hS : ∀ r m H, I r m H → S H)
    (step : ∀ v r m H, I (v :: r) m H → asg v m H (fun m H => WSs F c body (loopQ (I r) Q) noX m H)) (fin : ∀ m H, I [] m H → Q .next m H) (h0 : I xs m H) : WLoop F c asg body S Q xs m H := by
  induction xs generalizing m H with
  | nil => exact ⟨hS _ _ _ h0, fin _ _ h0⟩
  | cons v r ih => exact ⟨hS _ _ _ h0, hm _ _ _ _ _ (fun m H q => WF.mono q (loopQ_mono fun m H i => ih i)) (step v r m H h0)⟩
theorem WComp_ind {asg : Asg} {elt : Expr} {S : AHeap → Prop} {D : Addr} {Q : AHeap → Prop} {xs : List AV} (hm : AsgMono asg) (I : List AV → Loc → AHeap → Prop) (hS : ∀ r m H, I r m H → S H)
    (step : ∀ v r m H, I (v :: r) m H → asg v m H (fun m H => WE F c elt (fun y H => ∃ ys, H D = some (.list ys) ∧ ys.length ≤ bigLine ∧ I r m (H.set D (.list (ys ++ [y])))) noX m H)) (fin : ∀ m H, I [] m H → Q H) (h0 : I xs m H) : WComp F c asg elt S D Q xs m H := by
  induction xs generalizing m H with
  | nil => exact ⟨hS _ _ _ h0, fin _ _ h0⟩
  | cons v r ih => exact ⟨hS _ _ _ h0, hm _ _ _ _ _ (fun m H q => WV.mono q fun y H ⟨ys, h1, h2, h3⟩ => ⟨ys, h1, h2, ih h3⟩) (step v r m H h0)⟩
/-- the iterable is a range that was made for the loop -/
theorem rng_k {asg : Asg} {body : List Stmt} {Q : AFlow → Loc → AHeap → Prop} {d : Addr} {lo hi : Int} (a n : Nat) (hd : H d = none) (h : WLoop F c asg body (fun _ => True) Q (rg a n) m H) (e1 : lo = a := by rfl) (e2 : hi = ((a + n : Nat) : Int) := by rfl) (hb : a + n < 1073741824 := by lia) :
    ∃ xs S H', IterOf (H.set d (.range lo hi)) (.ref d) xs S ∧ H'.Sub (H.set d (.range lo hi)) ∧ WLoop F c asg body S Q xs m H' := by
  subst e1 e2
  refine ⟨_, _, H, .range (AHeap.set_same _ _ _) (by lia) (by lia) (by lia), (AHeap.Sub.refl H).new hd, ?_⟩
  rw [show (((a + n : Nat) : Int) - (a : Int)).toNat = n by lia, rg_eq]
  exact h
theorem rng_c {asg : Asg} {elt : Expr} {scope : Scope} {Q : Addr → AHeap → Prop} {d : Addr} {lo hi : Int} {y : Str} (a n : Nat) (hd : H d = none)
    (h : ∀ (c' : Cx) D, c'.w = c.w → c'.env.cells = closF c.env.cells scope.names [] → H D = none → WComp (inF F scope) c' (asgN y) elt (fun _ => True) D (Q D) (rg a n) [(y, none)] (H.set D (.list [])))
    (e1 : lo = a := by rfl) (e2 : hi = ((a + n : Nat) : Int) := by rfl) (hb : a + n < 1073741824 := by lia) :
    ∃ xs, ∃ S : AHeap → Prop, ∃ H' : AHeap, IterOf (H.set d (.range lo hi)) (.ref d) xs S ∧ (∃ b, AV.ref d = .ref b) ∧ H'.Sub (H.set d (.range lo hi)) ∧
      ∀ (c' : Cx) D, c'.w = c.w → c'.env.cells = closF c.env.cells scope.names [] → H' D = none → WComp (inF F scope) c' (asgN y) elt S D (Q D) xs [(y, none)] (H'.set D (.list [])) := by
  subst e1 e2
  refine ⟨_, _, H, .range (AHeap.set_same _ _ _) (by lia) (by lia) (by lia), ⟨d, rfl⟩, (AHeap.Sub.refl H).new hd, fun c' D h1 h2 h3 => ?_⟩
  rw [show (((a + n : Nat) : Int) - (a : Int)).toNat = n by lia, rg_eq]
  exact h c' D h1 h2 h3
theorem asgN_k {y : Str} {v : AV} {m' : Loc} {k : Loc → AHeap → Prop} (hp : Put m y v m') (h : k m' H) : asgN y v m H k := ⟨m', hp, h⟩
theorem meth_k {name : Str} {a : AV} {id : String} {P : String → Prop} (hm : Meth F c name a id m H) (h : P id) : ∃ id, Meth F c name a id m H ∧ P id := ⟨id, hm, h⟩
theorem AHeap.look_ne {a b : Addr} {o : AObj} {r : Option AObj} (h : b ≠ a) (e : H b = r) : H.set a o b = r := (AHeap.set_ne _ _ h).trans e
theorem new_k {H : AHeap} {as : List AV} {P : Addr → Prop} (hl : as.length ≤ bigLine) (h : ∀ a, H a = none → P a) : as.length ≤ bigLine ∧ ∀ a, H a = none → P a := ⟨hl, h⟩
theorem ift {A B : Prop} (h : A) : if true = true then A else B := h
theorem iff' {A B : Prop} (h : B) : if false = true then A else B := h
theorem brn {p : Prop} [Decidable p] {A B : Prop} (h1 : ¬ p → A) (h2 : p → B) : if (!decide p) = true then A else B := by
  by_cases q : p
  · rw [if_neg (by simpa using q)]; exact h2 q
  · rw [if_pos (by simpa using q)]; exact h1 q
theorem breq {a b : Int} {A B : Prop} (h1 : a = b → A) (h2 : a ≠ b → B) : if (a == b) = true then A else B := by
  by_cases q : a = b
  · rw [if_pos (by simpa using q)]; exact h1 q
  · rw [if_neg (by simpa using q)]; exact h2 q
theorem brne {a b : Int} {A B : Prop} (h1 : a ≠ b → A) (h2 : a = b → B) : if (a != b) = true then A else B := by
  by_cases q : a = b
  · rw [if_neg (by simpa using q)]; exact h2 q
  · rw [if_pos (by simpa using q)]; exact h1 q
theorem bool_k {b : Bool} {P : Bool → Prop} (h : P b) : ∃ b', AV.bool b = .bool b' ∧ P b' := ⟨b, rfl, h⟩
theorem WF.shrink {t : Sem Flow} {Q : AFlow → Loc → AHeap → Prop} (h : WF F c t (fun f m H => ∃ H', H'.Sub H ∧ Q f m H') X m H) : WF F c t Q X m H :=
  .mk fun h₀ s x => wpC_mono (h.run h₀ s x) (fun _ _ ⟨a, m', H', y, i, H2, k, q⟩ => ⟨a, m', H2, y.weak k, i, q⟩) fun _ _ z => z
theorem WS_AssignT2 {x y : Str} {px py tpos pos : Pos} {k : Nat} {value : Expr} {Q : AFlow → Loc → AHeap → Prop}
    (h : WE F c value (fun a H => ∃ u v, Seq2 H a [u, v] ∧ ∃ m1, Put m x u m1 ∧ ∃ m2, Put m1 y v m2 ∧ Q .next m2 H) X m H)
    (hs : swapsWithSole [.Tuple [.Name x px, .Name y py] k tpos] value pos.line c.env = pure false := by rfl)
    (hw : swappedStores [.Tuple [.Name x px, .Name y py] k tpos] value c.env = pure none := by rfl) : WS F c (.Assign [.Tuple [.Name x px, .Name y py] k tpos] value pos) Q X m H :=
  WS_AssignT (names := [(x, px), (y, py)]) rfl (WV.mono h fun a H ⟨u, v, h1, m1, h2, m2, h3, q⟩ => ⟨[u, v], m2, h1, rfl, ⟨m1, h2, m2, h3, rfl⟩, q⟩) hs hw
theorem WS_AssignT3 {x y z : Str} {px py pz tpos pos : Pos} {k : Nat} {value : Expr} {Q : AFlow → Loc → AHeap → Prop}
    (h : WE F c value (fun a H => ∃ u v w, Seq2 H a [u, v, w] ∧ ∃ m1, Put m x u m1 ∧ ∃ m2, Put m1 y v m2 ∧ ∃ m3, Put m2 z w m3 ∧ Q .next m3 H) X m H)
    (hs : swapsWithSole [.Tuple [.Name x px, .Name y py, .Name z pz] k tpos] value pos.line c.env = pure false := by rfl)
    (hw : swappedStores [.Tuple [.Name x px, .Name y py, .Name z pz] k tpos] value c.env = pure none := by rfl) : WS F c (.Assign [.Tuple [.Name x px, .Name y py, .Name z pz] k tpos] value pos) Q X m H :=
  WS_AssignT (names := [(x, px), (y, py), (z, pz)]) rfl (WV.mono h fun a H ⟨u, v, w, h1, m1, h2, m2, h3, m3, h4, q⟩ => ⟨[u, v, w], m3, h1, rfl, ⟨m1, h2, m2, h3, m3, h4, rfl⟩, q⟩) hs hw
theorem WS_AssignS2 {x y : Str} {px py tpos vpos pos : Pos} {k k' : Nat} {e1 e2 : Expr} {Q : AFlow → Loc → AHeap → Prop}
    (h : WSpl F c vpos [e1, e2] (fun as H => ∃ u v, as = [u, v] ∧ ∃ m1, Put m y v m1 ∧ ∃ m2, Put m1 x u m2 ∧ Q .next m2 H) X m H)
    (hw : ∀ env : Env, env.scope = F.scope → swappedStores [.Tuple [.Name x px, .Name y py] k tpos] (.Tuple [e1, e2] k' vpos) env = pure (some [x, y])) : WS F c (.Assign [.Tuple [.Name x px, .Name y py] k tpos] (.Tuple [e1, e2] k' vpos) pos) Q X m H := by
  refine WF.shrink (WS_AssignS (names := [(x, px), (y, py)]) (WE_Tuple (.mk fun h₀ s y => wpC_mono (h.run h₀ s y) (fun _ _ ⟨as, H', y', i, q⟩ => ⟨as, H', y', i, ?_⟩) fun _ _ z => z)) hw)
  obtain ⟨u, v, rfl, m1, h2, m2, h3, q⟩ := q
  refine ⟨Nat.le_of_ble_eq_true rfl, fun d hd => ⟨[u, v], m2, .tuple (AHeap.set_same _ _ _), rfl, ⟨m1, h2, m2, h3, rfl⟩, H', (AHeap.Sub.refl _).new hd, q⟩⟩
def asg2 (x y : Str) : Asg := fun e m H k => ∃ u v, Seq2 H e [u, v] ∧ ∃ m1, Put m x u m1 ∧ ∃ m2, Put m1 y v m2 ∧ k m2 H
theorem asg2_mono {x y : Str} : AsgMono (asg2 x y) := fun e m H k k' h ⟨u, v, h1, m1, h2, m2, h3, q⟩ => ⟨u, v, h1, m1, h2, m2, h3, h _ _ q⟩
theorem asg2_ok {x y : Str} {px py p : Pos} {k : Nat} : AsgOk F c (.Tuple [.Name x px, .Name y py] k p) (asg2 x y) := by
  obtain ⟨h1, h2⟩ := asgT_ok (F := F) (c := c) (names := [(x, px), (y, py)]) (elts := [.Name x px, .Name y py]) (k := k) (p := p) rfl
  refine ⟨fun e m H k ⟨u, v, a1, m1, a2, m2, a3, q⟩ => h1 e m H k ⟨[u, v], m2, a1, rfl, ⟨m1, a2, m2, a3, rfl⟩, q⟩, h2⟩
theorem WS_ForT2 {x y : Str} {px py p pos : Pos} {k : Nat} {iter : Expr} {body : List Stmt} {Q : AFlow → Loc → AHeap → Prop}
    (h : WE F c iter (fun it H => ∃ xs S H', IterOf H it xs S ∧ H'.Sub H ∧ WLoop F c (asg2 x y) body S Q xs m H') X m H)
    (hs : ∀ x, foldedSetIterable iter c.env x = pure x := by intro _; rfl) : WS F c (.For (.Tuple [.Name x px, .Name y py] k p) iter body [] pos) Q X m H := WS_ForA asg2_ok h hs
/-- back to a heap that knows less -/
theorem ret_sub {H' : AHeap} {P : AHeap → Prop} (k : H'.Sub H) (h : P H') : ∃ H', H'.Sub H ∧ P H' := ⟨H', k, h⟩
end
end Mine
end
section
open PySem PySem.W PyProof.Rows
set_option Elab.async false
set_option linter.unusedVariables false
set_option maxRecDepth 100000
namespace Mine
open Builtin Builtin._codecs
theorem encode_tree2 (x : Str) (t u : Tok) : «str.encode» ⟨[.str x t, .str (Str.ofString "utf-8") u], []⟩ = (do ret (← encodeRoad "str.encode" (.str x t) x (Str.ofString "utf-8") none)) := by kernel_rfl
theorem two_turns {σ : Type} (f : Nat → σ → Sem (ForInStep σ)) (n : Nat) (s0 s1 : σ) (h0 : 0 < n → ∀ i, f i s0 = pure (.yield s1)) (h1 : ∀ i, f i s1 = pure (.done s1)) (e : n = 0 → s0 = s1) :
    (forIn (List.range' 0 n) s0 f : Sem σ) = pure s1 := by
  match n, h0, e with
  | 0, _, e => rw [e rfl]; rfl
  | 1, h0, _ =>
    show (forIn [0] s0 f : Sem σ) = pure s1
    rw [List.forIn_cons, h0 (by decide)]
    simp
  | k + 2, h0, _ =>
    rw [List.range'_succ, List.forIn_cons, h0 (by lia)]
    simp only [pure_bind]
    rw [List.range'_succ, List.forIn_cons, h1]
    simp
theorem narrow_good (id : String) (self : Value) (x : Str) (hg : ∀ c ∈ x.cps.toList, Str.isSurrogate c = false) (hz : (x.cps.foldl (fun acc y => acc ++ (Str.utf8Of y).toArray) #[]).size ≤ sizeLine) :
    encodeNarrow id utf8Codec none self x = pure (x.cps.foldl (fun acc y => acc ++ (Str.utf8Of y).toArray) #[]) := by
  have hfind : Array.findIdx? utf8Codec.bad x.cps = none := by
    rw [Array.findIdx?_eq_none_iff]
    intro c hc
    exact hg c (by simpa using hc)
  have hn : x.length = x.cps.size := rfl
  simp only [encodeNarrow]
  rw [Std.Legacy.Range.forIn_eq_forIn_range']
  show (forIn (List.range' 0 _ 1) _ _ >>= _) = _
  rw [two_turns (s1 := (x.cps.size, x.cps.foldl (fun acc y => acc ++ (Str.utf8Of y).toArray) #[], {}))]
  · rfl
  · intro hpos i
    have hp : 0 < x.cps.size := by
      have : Std.Legacy.Range.size [:x.length] = x.cps.size := by simp [Std.Legacy.Range.size, hn]
      lia
    have hc0 : x.cps[0]? = some x.cps[0] := Array.getElem?_eq_getElem hp
    have hb0 : utf8Codec.bad x.cps[0] = false := hg _ (by simp)
    simp only [hc0, hb0]
    rw [if_neg (by simp)]
    simp only [Array.extract_size, hfind, Option.getD_none, Nat.zero_add]
    simp
    rfl
  · intro i
    have hc1 : x.cps[x.cps.size]? = none := Array.getElem?_eq_none (Nat.le_refl _)
    simp only [hc1]
    rw [if_neg (Nat.not_lt.mpr hz)]
  · intro h0
    have h1 : Std.Legacy.Range.size [:x.length] = x.cps.size := by simp [Std.Legacy.Range.size, hn]
    have h2 : x.cps = #[] := Array.eq_empty_of_size_eq_zero (by lia)
    rw [h2]; rfl
end Mine
end
section
open PySem PySem.W PyProof.Rows
set_option Elab.async false
set_option linter.unusedVariables false
set_option maxRecDepth 100000
namespace Mine
open Builtin Builtin._codecs
theorem dec_entry (c : UInt8) (cs : List UInt8) (t u : Tok) : «bytes.decode» ⟨[.bytes (c :: cs).toArray t, .str (Str.ofString "utf-8") u], []⟩ = (mkStr (Str.ofString "utf-8") >>= fun _ => mkStr (Str.ofString "utf-8") >>= fun e => mkStr (Str.ofString "bytes.decode") >>= fun d =>
    call (.builtin "_codecs.decode.text") [.bytes (c :: cs).toArray t, e, .none, d] >>= fun v => ret v) := by kernel_rfl
theorem args_decode_2 (a b : Value) : argsOk "bytes.decode" ⟨[a, b], []⟩ := by
  unfold argsOk; kernel_rfl
theorem dec1 : ∀ id, runDecoder id utf8Decoder none true ([195, 169] : List UInt8).toArray 0 [] = pure ((#[233] : Array Nat), 2) := by intro id; kernel_rfl
theorem dec2 : ∀ id, runDecoder id utf8Decoder none true ([230, 188, 162] : List UInt8).toArray 0 [] = pure ((#[28450] : Array Nat), 3) := by intro id; kernel_rfl
theorem dec3 : ∀ id, runDecoder id utf8Decoder none true ([240, 159, 152, 128] : List UInt8).toArray 0 [] = pure ((#[128512] : Array Nat), 4) := by intro id; kernel_rfl
section
variable {prog : Program} {w : World} {A : Around} {E : Value → Shared → Prop} {s : Shared} {c : UInt8} {cs : List UInt8} {t u : Tok} {x : Str} {n : Nat} {Q : Value → Shared → Prop}
theorem call_decode (hd : ∀ id, runDecoder id utf8Decoder none true (c :: cs).toArray 0 [] = pure (x.cps, n)) (hsz : x.length ≤ sizeLine) (h : ∀ t' k, Q (.str x t') { s with toks := k }) :
    wpAny (model prog w) A (call (.builtin "bytes.decode") [.bytes (c :: cs).toArray t, .str (Str.ofString "utf-8") u]) Q E s := by
  have meets : Meets («bytes.decode» ⟨[.bytes (c :: cs).toArray t, .str (Str.ofString "utf-8") u], []⟩) (fun _ R s => x.length ≤ sizeLine ∧ ∀ t' k, R (.ok (.ret (.str x t'))) { s with toks := k }) := by
    refine .of_wp fun prog w A R s hS => ?_
    obtain ⟨hsz, h⟩ := hS
    rw [dec_entry]
    refine wpAny_bind (wpAny_mkStr ?_ (by decide))
    refine wpAny_bind (wpAny_mkStr ?_ (by decide))
    refine wpAny_bind (wpAny_mkStr ?_ (by decide))
    exact wpAny_bind (call_function_meets KBd.kind_text KBd.plain_text KBd.entry_text (KBd.args_text _ _ _ _) (KBd.meets_text hd) ⟨hsz, wpAny_pure ⟨_, rfl, h _ _⟩⟩)
  exact call_meets FB.slot_bytes_decode (typeIs_bytes _ _ _) FB.entry_bytes_decode (args_decode_2 _ _) meets ⟨hsz, h⟩
theorem call_encode (hg : ∀ c ∈ x.cps.toList, Str.isSurrogate c = false) (hz : (x.cps.foldl (fun acc y => acc ++ (Str.utf8Of y).toArray) #[]).size ≤ sizeLine)
    (h : ∀ t' k, Q (.bytes (x.cps.foldl (fun acc y => acc ++ (Str.utf8Of y).toArray) #[]) t') { s with toks := k }) :
    wpAny (model prog w) A (call (.builtin "str.encode") [.str x t, .str (Str.ofString "utf-8") u]) Q E s := by
  have meets : Meets («str.encode» ⟨[.str x t, .str (Str.ofString "utf-8") u], []⟩) (fun _ R s => ∀ t' k, R (.ok (.ret (.bytes (x.cps.foldl (fun acc y => acc ++ (Str.utf8Of y).toArray) #[]) t'))) { s with toks := k }) := by
    refine .of_wp fun prog w A R s h => ?_
    rw [encode_tree2, encodeRoad_utf8, narrow_good _ _ _ hg hz]
    simp only [pure_bind]
    exact wpAny_bind (wpAny_mkBytes (wpAny_pure ⟨_, rfl, h _ _⟩) hz)
  exact call_meets PySem.F.slot_str_encode (typeIs_str _ _ _) PySem.F.entry_str_encode (PySem.F.args_str_encode_2 _ _) meets h
end
theorem utf8Of_enc {c : Nat} (h : c < 1114112) : Str.utf8Of c = (enc c).map Nat.toUInt8 := by
  unfold Str.utf8Of enc
  by_cases h1 : c < 128
  · rw [if_pos h1, if_pos h1]; rfl
  rw [if_neg h1, if_neg h1]
  by_cases h2 : c < 2048
  · rw [if_pos h2, if_pos h2]; rfl
  rw [if_neg h2, if_neg h2]
  by_cases h3 : c < 65536
  · rw [if_pos h3, if_pos h3]; rfl
  rw [if_neg h3, if_neg h3]; rfl
theorem encs_fold (x : Str) (h : ∀ c ∈ x.cps.toList, c < 1114112) : x.cps.foldl (fun acc y => acc ++ (Str.utf8Of y).toArray) #[] = ((encs x.cps.toList).map Nat.toUInt8).toArray := by
  rw [← Array.foldl_toList]
  have key : ∀ (l : List Nat) (acc : Array UInt8), (∀ c ∈ l, c < 1114112) → l.foldl (fun acc y => acc ++ (Str.utf8Of y).toArray) acc = acc ++ ((encs l).map Nat.toUInt8).toArray := by
    intro l
    induction l with
    | nil => intro acc _; simp [encs]
    | cons c l ih =>
      intro acc h
      rw [List.foldl_cons, ih _ fun d hd => h d (List.mem_cons_of_mem _ hd), utf8Of_enc (h c List.mem_cons_self)]
      simp [encs]
  rw [key _ _ h]; simp
end Mine
end
section
open PySem PySem.W PyProof.Rows
set_option Elab.async false
set_option linter.unusedVariables false
set_option maxRecDepth 100000
namespace Mine
section
variable {F : FC} {c : Cx} {X : XP} {m : Loc} {H : AHeap}
theorem meth_encode {y : Str} : Meth F c (Str.ofString "encode") (.str y) "str.encode" m H := fun h₀ s v x i pl Q E q => by
  obtain ⟨t, rfl⟩ := i
  with_reducible exact PySem.GM.of (.str y t) (typeIs_str _ _ _) PySem.F.slot_str_encode PySem.F.type_str_encode PySem.GM.noRef q
theorem meth_decode {ns : List Nat} : Meth F c (Str.ofString "decode") (.bytes ns) "bytes.decode" m H := fun h₀ s v x i pl Q E q => by
  obtain ⟨hb, t, rfl⟩ := i
  with_reducible exact KBd.method_of (.bytes (byteA ns) t) (typeIs_bytes _ _ _) FB.slot_bytes_decode FB.type_bytes_decode KBd.noRef q
theorem str_encode {y : Str} {Q : AV → AHeap → Prop} (hg : ∀ k ∈ y.cps.toList, k < 55296 ∨ (57344 ≤ k ∧ k < 1114112)) (hz : y.cps.size ≤ 1000) (h : Q (.bytes (encs y.cps.toList)) H) : WCall F c (.builtin "str.encode") [.str y, .str (Str.ofString "utf-8")] Q X m H := fun vf vs hv hi => .mk fun h₀ s x => by
  obtain rfl : vf = .builtin "str.encode" := hv
  obtain ⟨u, r, rfl, ⟨t, rfl⟩, h2⟩ := hi.cons_inv
  obtain ⟨w, r, rfl, ⟨t2, rfl⟩, h4⟩ := h2.cons_inv
  obtain rfl := h4.nil_inv
  have hlt : ∀ k ∈ y.cps.toList, k < 1114112 := fun k hk => by rcases hg k hk with q | q <;> omega
  have hsz : y.cps.toList.length = y.cps.size := Array.length_toList
  have hlen := encs_length_le y.cps.toList
  refine wpC_any (call_encode (fun k hk => ?_) ?_ fun t' tk => ?_)
  · unfold Str.isSurrogate
    rcases hg k hk with q | q
    · simp; omega
    · simp; omega
  · rw [encs_fold y hlt, List.size_toArray, List.length_map, ← bigLine_eq]
    show _ ≤ 16777216
    omega
  · rw [encs_fold y hlt]
    exact ⟨.bytes (encs y.cps.toList), H, x.toks tk, ⟨encs_lt hlt, t', rfl⟩, h⟩
theorem bytes_decode {b : Nat} {ns : List Nat} {k n : Nat} {Q : AV → AHeap → Prop} (hd : ∀ id, Builtin._codecs.runDecoder id Builtin._codecs.utf8Decoder none true ((b :: ns).map Nat.toUInt8).toArray 0 [] = pure ((#[k] : Array Nat), n)) (h : Q (.str ⟨#[k]⟩) H) : WCall F c (.builtin "bytes.decode") [.bytes (b :: ns), .str (Str.ofString "utf-8")] Q X m H := fun vf vs hv hi => .mk fun h₀ s x => by
  obtain rfl : vf = .builtin "bytes.decode" := hv
  obtain ⟨u, r, rfl, ⟨hb, t, rfl⟩, h2⟩ := hi.cons_inv
  obtain ⟨w, r, rfl, ⟨t2, rfl⟩, h4⟩ := h2.cons_inv
  obtain rfl := h4.nil_inv
  exact wpC_any (call_decode (x := ⟨#[k]⟩) hd (by show 1 ≤ sizeLine; decide) fun t' tk => ⟨.str ⟨#[k]⟩, H, x.toks tk, ⟨t', rfl⟩, h⟩)
theorem cmp_ne_bool {x y : Bool} {Q : Bool → AHeap → Prop} (h : Q (x != y) H) : WCmp F c .NotEq (.bool x) (.bool y) Q X m H :=
  cmp_leafS h fun h₀ s vx vy ix iy _ Q' E k => by
    obtain rfl : vx = .bool x := ix
    obtain rfl : vy = .bool y := iy
    exact ne_bool (k _)
end
end Mine
end
section
open PySem PySem.W PyProof.Rows
set_option Elab.async false
set_option linter.unusedVariables false
set_option maxRecDepth 100000
namespace Mine
/-- our objects and the cells of a call -/
def withCells (H : AHeap) (cs : List (Str × Addr)) (ci : Str → Option AV) : AHeap := fun b => match cs.find? (fun x => x.2 == b) with | some x => some (.cell (ci x.1)) | none => H b
theorem withCells_look {H : AHeap} {cs : List (Str × Addr)} {ci : Str → Option AV} (ap : cs.Pairwise fun x y => x.2 ≠ y.2) {x : Str} {a : Addr} (e : cs.lookup x = some a) : withCells H cs ci a = some (.cell (ci x)) := by
  unfold withCells
  have hm := mem_of_lookup e
  cases q : cs.find? (fun x => x.2 == a) with
  | none => have := List.find?_eq_none.mp q _ hm; simp at this
  | some y =>
    obtain ⟨n, b⟩ := y
    have h1 := List.find?_some q
    have hb : b = a := by simpa using h1
    subst hb
    have h2 := List.mem_of_find?_eq_some q
    rw [name_of_addr ap h2 hm]
theorem withCells_or {H : AHeap} {cs : List (Str × Addr)} {ci : Str → Option AV} {b : Addr} {o : AObj} (e : withCells H cs ci b = some o) : (∃ x, (x, b) ∈ cs ∧ o = .cell (ci x)) ∨ H b = some o := by
  unfold withCells at e
  cases q : cs.find? (fun x => x.2 == b) with
  | none => rw [q] at e; exact .inr e
  | some y =>
    rw [q] at e
    obtain ⟨n, b'⟩ := y
    have hb : b' = b := by simpa using List.find?_some q
    subst hb
    cases e
    exact .inl ⟨n, List.mem_of_find?_eq_some q, rfl⟩
theorem withCells_sub {H : AHeap} {cs : List (Str × Addr)} {ci : Str → Option AV} (h : ∀ x a, (x, a) ∈ cs → H a = none) : H.Sub (withCells H cs ci) := fun b o e => by
  unfold withCells
  cases q : cs.find? (fun x => x.2 == b) with
  | none => exact e
  | some y =>
    obtain ⟨n, b'⟩ := y
    have hb : b' = b := by simpa using List.find?_some q
    subst hb
    rw [h n _ (List.mem_of_find?_eq_some q)] at e; cases e
/-- a def with cells is called, from wherever -/
theorem enterC {F' : FC} {w : World} {A : Around} {s : Shared} {g : Heap} {H : AHeap} {a : Addr} {u : Value} {v : AV} {p : Str} {ls : List Str} {body : List Stmt} {m0 : Loc} {ci : Str → Option AV} {cl : Nat → List (Str × Addr)} {Q : AFlow → Loc → AHeap → Prop} (fn : Fn F' a [p] body w.params) (iu : v.Is u)
    (KI : (F'.K w.params).In s.heap) (hnl : s.heap.NoLimit) (g2 : ∀ d o, g.get? d = some o → s.heap.get? d = some o) (gK : (F'.K w.params).In g) (gT : ∃ p l mg mb, TopRead p l mg mb g)
    (hH : ∀ d o, H d = some o → (∃ ob, s.heap.get? d = some ob ∧ o.Is ob) ∧ g.get? d = none) (hgens : s.gens = #[]) (hh : A.handled = none) (hdep : A.depth + 1 + F'.ht < recursionLimit) (hun : A.units + 3 + 8 * F'.ht + 80 < cLine)
    (hcl : ∀ n, cellsFrom n F'.scope.names [] = cl n) (hcd : ∀ n, ((cl n).map (·.1)).Nodup) (hm0 : m0.map (·.1) = (if F'.scope.names.lookup p = some .local then [p] else []) ++ ls)
    (hpk : F'.scope.names.lookup p = some .local ∨ (F'.scope.names.lookup p = some .cell ∧ ∀ n, ((cl n).lookup p).isSome = true))
    (hloc : ∀ x ∈ m0.map (·.1), F'.scope.names.lookup x = some .local ∧ (x == ("__debug__" : Str)) = false) (hnd : (m0.map (·.1)).Nodup)
    (hval : ∀ z w, (z, some w) ∈ m0 → z = p ∧ w = v ∧ F'.scope.names.lookup p = some .local)
    (hci : ∀ z w, ci z = some w → z = p ∧ w = v ∧ ¬ F'.scope.names.lookup p = some .local) (hcn : ∀ n x b, (cl n).lookup x = some b → ci x = none → x ≠ p)
    (h : ∀ (c' : Cx) (n : Nat) (H' : AHeap), c'.w = w → c'.A = A.deeper c'.env → c'.env.frame = some c'.env.locals → c'.env.cells = cl n → H.Sub H' → (∀ x b, (cl n).lookup x = some b → H' b = some (.cell (ci x)) ∧ H b = none) → (∀ x y b, (x, b) ∈ cl n → (y, b) ∈ cl n → x = y) → WSs F' c' body Q noX m0 H') :
    wpC (model F'.prog w) A (call (.ref a) [u]) (Ended F' w g s.os Q) (fun _ _ => False) s := by
  obtain ⟨o, fd, hl, hd, e1, e2, e3, e4, e5, e6, e7⟩ := fn.obj
  have e7' : bindArgs fd ⟨[u], []⟩ = pure [(p, u)] := e7 [u] rfl
  refine wpC_call (codeC_call_def (binds := [(p, u)]) (body := body) (Nat.lt_of_le_of_lt (Nat.le_trans (Nat.le_add_right _ _) (Nat.le_add_right _ _)) hdep) (KI _ _ hl) hd hnl (codeRec_of KI e6) e5 (.of_eq e7') (by rw [e1]; exact fn.cor) (by rw [e1]; exact fn.gen) ?_)
  rw [e4]
  have hcl' : cellsFrom (s.heap.objs.size + 1) fd.scope.names [] = cl (s.heap.objs.size + 1) := by rw [e1]; exact hcl _
  refine wpAny_newFunctionEnv_cells (by rw [e1]; exact fn.kind) (fun y hy => ?_) fun env henv s₁ ic => ?_
  · obtain rfl := List.mem_singleton.mp hy
    rw [hcl', e1]
    rcases hpk with q | ⟨q1, q2⟩
    · exact .inl q
    · exact .inr ⟨q1, q2 _⟩
  have hes : env.scope = F'.scope := by rw [henv]; exact e1
  have hec : env.cells = cl (s.heap.objs.size + 1) := by rw [henv]; exact hcl'
  have heg : env.globals = mainGlobals := by rw [henv]; exact e2
  have heb : env.builtins = builtinsNs := by rw [henv]; exact e3
  refine ⟨hnl.keeps ic.toInCall.keep, codeC_func ?_⟩
  obtain ⟨h', tk, es⟩ := ic.toInCall.same
  have hLs : s.heap.get? env.locals = none := Heap.get?_none_of_le ic.toInCall.fresh
  have hcs : ∀ y b, (y, b) ∈ cl (s.heap.objs.size + 1) → s.heap.get? b = none ∧ b ≠ env.locals := fun y b hm => by
    have := ic.above y b (by rw [hec]; exact hm)
    exact ⟨Heap.get?_none_of_le (Nat.le_of_lt (Nat.lt_of_le_of_lt ic.toInCall.fresh this)), Nat.ne_of_gt this⟩
  have hHn : ∀ y d, (y, d) ∈ cl (s.heap.objs.size + 1) → H d = none := fun y d hm => by
    cases q : H d with
    | none => rfl
    | some o => obtain ⟨⟨ob, gg, _⟩, _⟩ := hH d o q; rw [(hcs y d hm).1] at gg; cases gg
  have hgn : ∀ d, s.heap.get? d = none → g.get? d = none := fun d hd => by
    cases q : g.get? d with
    | none => rfl
    | some o => rw [g2 _ _ q] at hd; cases hd
  have ap : (cl (s.heap.objs.size + 1)).Pairwise fun x y => x.2 ≠ y.2 := by rw [← hec]; exact ic.apart
  have hko : env.kindOf p = F'.scope.names.lookup p := by unfold Env.kindOf; rw [hes]
  let c' : Cx := { w := w, A := A.deeper env, env := env, os := s.os }
  have y : St F' c' g m0 (withCells H (cl (s.heap.objs.size + 1)) ci) s₁ := by
    refine ⟨⟨fn.kind, hes, heg, heb, hh, ?_, ?_, fun _ _ _ q => q⟩, ⟨gK, gT⟩, ⟨_, ic.toInCall.ns, fun z w hz => ?_⟩, hloc, hnd, fun b ob e => ic.toInCall.keep b ob (g2 b ob e), hgn _ hLs, fun d od e => ?_, by rw [es]; exact hgens, by rw [es], trivial⟩
    · exact hdep
    · exact hun
    · obtain ⟨rfl, rfl, hk⟩ := hval z w hz
      refine ⟨u, ?_, iu⟩
      show bindL env.kindOf [(z, u)] (fun _ => none) z = some u
      unfold bindL bindL
      rw [hko, if_pos hk]
      exact if_pos rfl
    · rcases withCells_or e with ⟨y, hm, rfl⟩ | e
      · obtain ⟨q1, q2⟩ := hcs y d hm
        refine ⟨?_, q2, hgn _ q1⟩
        have hlk : env.cells.lookup y = some d := by
          rw [hec]
          have key : ∀ (l : List (Str × Addr)), (l.Pairwise fun x y => x.2 ≠ y.2) → (y, d) ∈ l → (l.map (·.1)).Nodup → l.lookup y = some d := by
            intro l
            induction l with
            | nil => intro _ hm; cases hm
            | cons z l ih =>
              intro ap hm nd
              obtain ⟨zn, za⟩ := z
              rcases List.mem_cons.mp hm with q | q
              · cases q; simp [List.lookup]
              · have hne : y ≠ zn := fun q2 => (List.nodup_cons.mp nd).1 (List.mem_map.mpr ⟨(y, d), q, q2⟩)
                rw [List.lookup_cons, beq_false_of_ne hne]
                exact ih (List.pairwise_cons.mp ap).2 q (List.nodup_cons.mp nd).2
          exact key _ ap hm (hcd _)
        obtain ⟨oc, gg, hdc⟩ := ic.cell y d hlk
        refine ⟨oc, gg, ?_⟩
        have hcm : bindC env.kindOf [(p, u)] (fun _ => none) y = if env.kindOf p = some .local then none else if y = p then some u else none := by
          unfold bindC bindC
          split
          · rfl
          · rfl
        rw [hcm, hko] at hdc
        cases qc : ci y with
        | none =>
          have hne := hcn _ y d (hec ▸ hlk) qc
          rw [if_neg hne] at hdc
          show oc.data = .cell none
          rw [hdc]; split <;> rfl
        | some w =>
          obtain ⟨rfl, rfl, hk⟩ := hci y w qc
          rw [if_neg hk, if_pos rfl] at hdc
          exact ⟨u, hdc, iu⟩
      · obtain ⟨⟨ob', q, i⟩, n2⟩ := hH _ _ e
        refine ⟨⟨ob', ic.toInCall.keep _ _ q, i⟩, fun qq => ?_, n2⟩
        rw [show c'.env.locals = env.locals from rfl] at qq
        rw [qq, hLs] at q; cases q
  have r := (h c' (s.heap.objs.size + 1) _ rfl rfl (by show env.frame = some env.locals; rw [henv]; rfl) hec (withCells_sub hHn) (fun y d e => ⟨withCells_look ap e, hHn _ _ (mem_of_lookup e)⟩) fun y z d h1 h2 => name_of_addr ap h1 h2).run _ _ y
  exact wpC_mono r (fun f s' z => ⟨c', f, z, rfl, by cases f <;> rfl⟩) fun _ _ z => z.elim
theorem WCall_defC {F F' : FC} {c : Cx} {X : XP} {m : Loc} {H : AHeap} {a : Addr} {p : Str} {ls : List Str} {body : List Stmt} {v : AV} {Q : AV → AHeap → Prop} {m0 : Loc} {ci : Str → Option AV} {cl : Nat → List (Str × Addr)} (fn : Fn F' a [p] body c.w.params) (hK : F'.K = F.K) (hp : F'.prog = F.prog) (ht : F'.ht < F.ht)
    (hcl : ∀ n, cellsFrom n F'.scope.names [] = cl n) (hcd : ∀ n, ((cl n).map (·.1)).Nodup) (hm0 : m0.map (·.1) = (if F'.scope.names.lookup p = some .local then [p] else []) ++ ls)
    (hpk : F'.scope.names.lookup p = some .local ∨ (F'.scope.names.lookup p = some .cell ∧ ∀ n, ((cl n).lookup p).isSome = true))
    (hloc : ∀ x ∈ m0.map (·.1), F'.scope.names.lookup x = some .local ∧ (x == ("__debug__" : Str)) = false) (hnd : (m0.map (·.1)).Nodup)
    (hval : ∀ z w, (z, some w) ∈ m0 → z = p ∧ w = v ∧ F'.scope.names.lookup p = some .local)
    (hci : ∀ z w, ci z = some w → z = p ∧ w = v ∧ ¬ F'.scope.names.lookup p = some .local) (hcn : ∀ n x b, (cl n).lookup x = some b → ci x = none → x ≠ p)
    (h : ∀ (c' : Cx) (n : Nat) (H' : AHeap), c'.w = c.w → c'.A = c.A.deeper c'.env → c'.env.frame = some c'.env.locals → c'.env.cells = cl n → H.Sub H' → (∀ x b, (cl n).lookup x = some b → H' b = some (.cell (ci x)) ∧ H b = none) → (∀ x y b, (x, b) ∈ cl n → (y, b) ∈ cl n → x = y) → WSs F' c' body (retQ Q) noX m0 H') : WCall F c (.ref a) [v] Q X m H := by
  intro vf vs hf hi
  refine .mk fun h₀ s x => ?_
  obtain rfl : vf = .ref a := hf
  obtain ⟨u, r, rfl, iu, h2⟩ := hi.cons_inv
  obtain rfl := h2.nil_inv
  obtain ⟨g1, g2, g3, g4⟩ := x.ground
  have hnl : s.heap.NoLimit := let ⟨_, _, _, _, T⟩ := x.sta.top; T.nolimit.keeps x.keep
  have hdep := x.ok.depth
  have hun := x.ok.units
  rw [← hp]
  refine wpC_mono (enterC (g := hideAll s.heap (domOf H s.heap.objs.size)) (H := H) fn iu (hK ▸ x.sta.K.keeps x.keep) hnl g2 (hK ▸ x.sta.K.keeps g1) (let ⟨p, l, mg, mb, T⟩ := x.sta.top; ⟨p, l, mg, mb, T.keeps g1⟩) (fun d o e => ⟨(x.heap d o e).1, g4 d o e⟩) x.gens x.ok.hh (by lia) (by lia) hcl hcd hm0 hpk hloc hnd hval hci hcn h) (fun r s' ⟨c', f, ⟨af, m', H', z, i, q⟩, ho, e⟩ => ?_) fun _ _ z => z.elim
  subst e
  have zz := x.back z (ho.trans x.os)
  cases af with
  | next => cases i; obtain ⟨H2, k, q⟩ := q; exact ⟨.none, H2, zz.weak k, rfl, q⟩
  | brk => cases i; obtain ⟨H2, k, q⟩ := q; exact ⟨.none, H2, zz.weak k, rfl, q⟩
  | cont => cases i; obtain ⟨H2, k, q⟩ := q; exact ⟨.none, H2, zz.weak k, rfl, q⟩
  | ret v => obtain ⟨u, rfl, i⟩ := i; obtain ⟨H2, k, q⟩ := q; exact ⟨v, H2, zz.weak k, i, q⟩
end Mine
end
section
open PySem PySem.W PyProof.Rows
set_option Elab.async false
set_option linter.unusedVariables false
set_option maxRecDepth 100000
namespace Mine
/-- an exception of the class at 44 flies out of the frames l; all that stood in G still stands, up to the slots, and all of B stands as it was -/
def FlyH (G B : Heap) (l : List Env) (os : OsState) (v : Value) (s' : Shared) : Prop := ∃ e a0, v = .ref e ∧ Heap.FlyingW B l e (.ref 44) a0 s'.heap ∧ G.UpToSlots s'.heap ∧ s'.gens = #[] ∧ s'.os = os
def FlyX (G B : Heap) (c : Cx) (outer : List Env) : XP := fun _ v s' => FlyH G B (c.env :: outer) c.os v s'
/-- what is left to do behind the body of a def that raises -/
def LeaveX (F : FC) (G B : Heap) (c : Cx) (outer : List Env) : XP := fun _ v s' =>
  wpAny (model F.prog c.w) c.A (leaving c.env v) (fun _ s'' => FlyH G B outer c.os v s'') (fun _ _ => False) s'
structure Here (G B : Heap) (c : Cx) (outer : List Env) : Prop where
  frames : c.A.frames = some (c.env :: outer)
  frame : c.env.frame = some c.env.locals
  P : ∀ h, c.P h → G.StaysIn h ∧ B.StaysIn h ∧ h.FunFrames B outer
theorem leave_fly {F : FC} {G B : Heap} {c : Cx} {outer : List Env} (hc : Here G B c outer) {h₀ : Heap} {v : Value} {s' : Shared} (h : FlyX G B c outer h₀ v s') : LeaveX F G B c outer h₀ v s' := by
  obtain ⟨e, a0, rfl, f, k, g, o⟩ := h
  exact wpAny_leaves_onW hc.frames hc.frame f fun h' f' k' => ⟨e, a0, rfl, f', k.trans k', g, o⟩
section
variable {F : FC} {c : Cx} {h₀ : Heap} {m : Loc} {H : AHeap} {s : Shared}
theorem St.frames (x : St F c h₀ m H s) {G B : Heap} {outer : List Env} (hc : Here G B c outer) {h' : Heap} (k : h₀.StaysIn h') (kl : ∀ o, s.heap.get? c.env.locals = some o → h'.get? c.env.locals = some o) :
    G.StaysIn h' ∧ B.StaysIn h' ∧ h'.FunFrames B (c.env :: outer) := by
  obtain ⟨h0, h1, h2⟩ := hc.P _ x.gp
  refine ⟨fun b o e => k b o (h0 b o e), fun b o e => k b o (h1 b o e), by rw [x.ok.scope, x.ok.kind]; decide, ?_, h2.of_keeps fun b o e _ => ⟨o, k b o e, rfl⟩⟩
  obtain ⟨mm, ⟨o, es, ep, ho, hd, _⟩, _⟩ := x.ns
  refine ⟨c.env.locals, o, hc.frame, ?_, kl o ho, fun vs => by rw [hd]; nofun⟩
  cases q : B.get? c.env.locals with
  | none => rfl
  | some o' => have := h1 _ _ q; rw [x.newL] at this; cases this
end
theorem WCall_defX {F F' : FC} {c : Cx} {X : XP} {m : Loc} {H : AHeap} {a : Addr} {ps ls : List Str} {body : List Stmt} {as : List AV} {Q : AV → AHeap → Prop} {G B : Heap} {outer : List Env} (fn : Fn F' a ps body c.w.params) (hK : F'.K = F.K) (hp : F'.prog = F.prog) (ht : F'.ht < F.ht)
    (hlen : ps.length = as.length) (hloc : ∀ x ∈ ps ++ ls, F'.scope.names.lookup x = some .local ∧ (x == ("__debug__" : Str)) = false) (hnd : (ps ++ ls).Nodup) (hcell : ∀ x ∈ F'.scope.names, x.2 ≠ .cell) (hc : Here G B c outer)
    (hX : ∀ h₀ v s', FlyX G B c outer h₀ v s' → X h₀ v s')
    (h : ∀ c' : Cx, c'.w = c.w → Here G B c' (c.env :: outer) → WSs F' c' body (fun _ _ _ => False) (LeaveX F' G B c' (c.env :: outer)) (zipL ps as ++ ls.map fun x => (x, none)) H) : WCall F c (.ref a) as Q X m H := by
  intro vf vs hf hi
  refine .mk fun h₀ s x => ?_
  obtain rfl : vf = .ref a := hf
  obtain ⟨g1, g2, g3, g4⟩ := x.ground
  have hdep := x.ok.depth
  have hun := x.ok.units
  have hLn : H c.env.locals = none := by
    cases q : H c.env.locals with
    | none => rfl
    | some p => exact absurd rfl (x.heap _ _ q).2.1
  rw [← hp]
  refine wpC_mono (enterD (P := fun h => G.StaysIn h ∧ B.StaysIn h ∧ h.FunFrames B (c.env :: outer)) (Q := fun _ _ _ => False) (Xc := fun c' => LeaveX F' G B c' (c.env :: outer)) (E := X h₀) fn hi hlen hloc hnd hcell (hK ▸ x.sta.K.keeps x.keep) (let ⟨_, _, _, _, T⟩ := x.sta.top; T.nolimit.keeps x.keep) g2 (hK ▸ x.sta.K.keeps g1) (let ⟨p, l, mg, mb, T⟩ := x.sta.top; ⟨p, l, mg, mb, T.keeps g1⟩) (fun d o e => ⟨(x.heap d o e).1, g4 d o e⟩) x.gens x.ok.hh (by lia) (by lia)
    (fun h h' k q => ⟨fun b o e => k b o (q.1 b o e), fun b o e => k b o (q.2.1 b o e), q.2.2.of_keeps fun b o e _ => ⟨o, k b o e, rfl⟩⟩) (x.frames hc g1 fun o e => g3 _ _ e hLn) (fun c' hw hA ho v s' z => wpC_any ?_) fun c' hw hA hf ho hP => h c' hw ⟨by rw [hA]; exact Around.frames_deeper hc.frames, hf, fun _ q => by rw [hP] at q; exact q⟩) (fun r s' ⟨c', f, ⟨af, m', H', z, i, q⟩, ho, e⟩ => q.elim) fun _ _ z => z
  have z : wpAny (model F'.prog c'.w) c'.A (leaving c'.env v) (fun _ s'' => FlyH G B (c.env :: outer) c'.os v s'') (fun _ _ => False) s' := z
  rw [hw, ho] at z
  exact wpAny_mono z (fun _ _ q => hX _ _ _ (by have := x.os; rw [this] at q; exact q)) fun _ _ q => q.elim
end Mine
end
section
open PySem PySem.W PyProof.Rows
set_option Elab.async false
set_option linter.unusedVariables false
set_option maxRecDepth 100000
namespace Mine
/-- the classes behind a class of the program that stands on one that stands on Exception -/
def bmOf (P : Addr) : List Value := [.ref P, .type "Exception", .type "BaseException", .type "object"]
theorem bm_exc (C P : Addr) : (Value.ref C :: bmOf P).contains (.type "Exception") = true := by simp [bmOf]
theorem bm_base (C P : Addr) : (Value.ref C :: bmOf P).contains (.type "BaseException") = true := by simp [bmOf]
theorem bm_attr (C P : Addr) : (Value.ref C :: bmOf P).contains (.type "AttributeError") = false := by simp [bmOf]
theorem bm_name (C P : Addr) : (Value.ref C :: bmOf P).contains (.type "NameError") = false := by simp [bmOf]
theorem bm_self (C P : Addr) : (Value.ref C :: bmOf P).contains (.ref C) = true := by simp [bmOf]
section
variable {M : Model} {A : Around} {E : Value → Shared → Prop} {h : Heap} {g : Array GenState} {d : Drawn} {t : Nat} {os : OsState}
variable {nm q : Str} {C N P : Addr} {bs : List Value} {hdct : Bool} {sn : List Str} {sub : List Value} {ab : Bool} {col : Option Bool} {dd : Option Addr} {k0 k1 k2 k3 k5 : Option Value}
theorem own_check_new {rest : List Value} {Q : Unit → Shared → Prop} (hC : h.get? C = some (excClassObj nm q C N bs (bmOf P) hdct sn sub ab col dd k0 k1 k2 k3 k5 "Exception.__new__"))
    (hq : Q () ⟨h, g, d, t, os⟩) : wpAny M A (checkBuiltinCall "Exception.__new__" ⟨.ref C :: rest, []⟩) Q E ⟨h, g, d, t, os⟩ := by
  have F := PySem.F.excBase_Exception
  have hstar := F.noStar
  simp only [checkBuiltinCall, F.newKind, F.newSplit, F.newRow]
  repeat (first | refine wpAny_loadPart_at hC ?_ | (refine wpAny_isSubtype_exc hC ?_; rw [bm_exc]) | refine wpAny_staticBase_exc hC ?_ | refine wpAny_madeBy_exc hC ?_ | simp only [bne_self_eq_false, Bool.false_eq_true, if_false] | wp_step)
  exact hq
end
section
variable {prog : Program} {w : World} {A : Around} {R : Result → Shared → Prop} {E : Value → Shared → Prop} {h : Heap} {g : Array GenState} {d : Drawn} {t : Nat} {os : OsState}
variable {nm q : Str} {C N P : Addr} {bs : List Value} {hdct : Bool} {sn : List Str} {sub : List Value} {ab : Bool} {col : Option Bool} {dd : Option Addr} {k0 k1 k2 k3 k5 : Option Value}
theorem own_new {rest : List Value} (hC : h.get? C = some (excClassObj nm q C N bs (bmOf P) hdct sn sub ab col dd k0 k1 k2 k3 k5 "Exception.__new__"))
    (hq : R (.ok (.ret (.ref (h.objs.size + 1)))) ⟨(h.push { cls := .type "tuple", data := .seq rest.toArray }).push
      { cls := .ref C, data := .fields #[.ref h.objs.size, .none, .none, .none, .bool false, .none] }, g, d, t, os⟩) (hrest : rest.length ≤ sizeLine := by size_fits) :
    codeAny (model prog w) A (.builtin "Exception.__new__" ⟨.ref C :: rest, []⟩) R ⟨h, g, d, t, os⟩ := by
  have F := PySem.F.excBase_Exception
  have hends := F.ends
  refine codeAny_builtinAt F.entry ?_
  unfold Builtin.«BaseException.__new__»
  refine PySem.wpAt_bind ?_
  show PySem.wpAt _ _ _ (stack >>= _) _ _ _
  refine PySem.wpAt_bind (PySem.wpAt_stack fun p below => PySem.wpAt_of_wpAny ?_)
  wp_walk
  refine PySem.wpAt_of_wpAny ?_
  rw [F.owner]
  repeat (first | with_reducible refine wpAny_madeHere_exc F.canon hC ?_ | with_reducible refine wpAny_loadPart_at hC ?_ | (with_reducible refine wpAny_isSubtype_exc hC ?_; first | rw [bm_exc] | rw [bm_attr] | rw [bm_name]) | wp_step)
  show R _ _
  rw [Heap.size_push]
  exact hq
theorem own_type_call {rest : List Value} {fI : Addr} {oI : Obj} {Q : Fin → Shared → Prop}
    (hC : h.get? C = some (excClassObj nm q C N bs (bmOf P) hdct sn sub ab col dd k0 k1 k2 k3 k5 "Exception.__new__"))
    (hi : Looks (model prog w) h (typeLookup (.ref C) "__init__") (some (.ref fI))) (hfI : h.get? fI = some oI) (hfc : oI.cls = .type "function")
    (hq : ∀ h' e, Heap.MadeExcOf h h' e (.ref C) rest →
      wpAny (model prog w) A (call (.ref fI) (.ref e :: rest)) (fun r s' => r = .none ∧ Q (.done (.ret (.ref e))) s') E ⟨h', g, d, t, os⟩) (hrest : rest.length ≤ sizeLine := by size_fits) :
    wpAny (model prog w) A (Builtin.«type.__call__» ⟨.ref C :: rest, []⟩) Q E ⟨h, g, d, t, os⟩ := by
  have F := PySem.F.excBase_Exception
  repeat (first | with_reducible refine wpAny_loadPart_at hC ?_ | with_reducible refine wpAny_madeBy_exc hC ?_ | wp_step)
  refine codeAny_call_builtin_code (Code.quiet_builtin _ F.quiet) (own_check_new hC ?_)
  refine own_new hC ?_ hrest
  show wpAny _ _ _ _ _ _
  have kk : ∀ b o, h.get? b = some o → ((h.push { cls := .type "tuple", data := .seq rest.toArray }).push { cls := .ref C, data := .fields #[.ref h.objs.size, .none, .none, .none, .bool false, .none] }).get? b = some o :=
    fun b o e => Heap.get?_push_of_some _ (Heap.get?_push_of_some _ e)
  have hC₁ := kk _ _ hC
  have hfI₁ := kk _ _ hfI
  have hget : ((h.push { cls := .type "tuple", data := .seq rest.toArray }).push
      { cls := .ref C, data := .fields #[.ref h.objs.size, .none, .none, .none, .bool false, .none] }).get? (h.objs.size + 1) = some
      { cls := .ref C, data := .fields #[.ref h.objs.size, .none, .none, .none, .bool false, .none] } := by heap_get
  unfold isInstance
  repeat (first | with_reducible refine wpAny_loadPart_at hget ?_ | (with_reducible refine wpAny_isSubtype_exc hC₁ ?_; rw [bm_self]) | wp_step)
  show wpAny _ _ (typeLookup (.ref C) _) _ _ _
  refine hi _ _ _ _ kk ?_
  refine wpAny_holding (wpAny_bind ?_)
  unfold bindSpecial
  refine wpAny_bind (wpAny_typeOf (T := "function") ⟨_, hfI₁, hfc⟩ ?_)
  rw [if_pos (by decide)]
  refine wpAny_pure (wpAny_bind (wpAny_mono (hq _ (h.objs.size + 1) ⟨kk, Heap.get?_none_of_le (Nat.le_succ _), h.objs.size, hget, Heap.get?_none_of_le (Nat.le_refl _), ?_⟩) (fun r s' hr => ?_) fun _ _ x => x))
  · exact Heap.get?_push_of_some _ (Heap.get?_push_at rfl rfl)
  · obtain ⟨rfl, hQ⟩ := hr
    wp_walk
    exact hQ
theorem own_call {rest : List Value} {fI : Addr} {oI : Obj} {Q : Value → Shared → Prop}
    (hC : h.get? C = some (excClassObj nm q C N bs (bmOf P) hdct sn sub ab col dd k0 k1 k2 k3 k5 "Exception.__new__"))
    (hi : Looks (model prog w) h (typeLookup (.ref C) "__init__") (some (.ref fI))) (hfI : h.get? fI = some oI) (hfc : oI.cls = .type "function")
    (hq : ∀ h' e, Heap.MadeExcOf h h' e (.ref C) rest →
      wpAny (model prog w) (A.under (.builtin "type.__call__" ⟨.ref C :: rest, []⟩)) (call (.ref fI) (.ref e :: rest)) (fun r s' => r = .none ∧ Q (.ref e) s') E ⟨h', g, d, t, os⟩) (hrest : rest.length ≤ sizeLine := by size_fits) :
    wpAny (model prog w) A (call (.ref C) rest) Q E ⟨h, g, d, t, os⟩ := by
  have f1 := tc_lookup
  have f2 := tc_bind (.ref C)
  have hT : (⟨h, g, d, t, os⟩ : Shared).TypeIs (.ref C) "type" := ⟨_, hC, rfl⟩
  refine wpAny_call (codeAny_of_tree ?_)
  show wpAny _ _ (callAny (.ref C) _) _ _ _
  repeat (any_goals (first | assumption | with_reducible refine wpAny_loadPart_at hC ?_ | wp_step))
  refine ⟨rfl, ?_⟩
  refine codeAny_call_builtin_at (Code.quiet_builtin _ (by decide +kernel)) entry_typeCall (wpAny_check_type_call_sub hC (own_type_call (hrest := hrest) hC hi hfI hfc fun h' e hm => ?_))
  exact hq h' e hm
end
end Mine
end
section
open PySem PySem.W PyProof.Rows
set_option Elab.async false
set_option linter.unusedVariables false
set_option maxRecDepth 100000
namespace Mine
open Builtin Builtin.ObjectAttr
section
variable {prog : Program} {w : World} {A : Around} {R : Result → Shared → Prop} {E : Value → Shared → Prop} {s : Shared}
variable {K : Frag} {nm q : Str} {x C N P : Addr} {bs : List Value} {hdct : Bool} {sn : List Str} {sub : List Value} {ab : Bool} {col : Option Bool} {dd : Option Addr} {k0 k1 k2 k3 k5 : Option Value} {name : Str} {v : Value} {ox : Obj} {ws : Array Value}
theorem own_store {tk : Tok} (X : K.In s.heap) (hC : K.lookup C = some (excClassObj nm q C N bs (bmOf P) true sn sub ab col dd k0 k1 k2 k3 k5 "Exception.__new__"))
    (hx : s.heap.get? x = some ox) (hcls : ox.cls = .ref C) (hd : ox.data = .fields ws) (hdn : ox.dict = none) (ha : findIn K (.ref C) name = some none)
    (hq : ∀ h' dx tk', (∀ b o, b ≠ x → s.heap.get? b = some o → h'.get? b = some o) → h'.get? x = some { cls := ox.cls, dict := some dx, data := ox.data, slots := ox.slots } → R (.ok (.ret .none)) { s with heap := h', toks := tk' }) :
    codeAny (model prog w) A (.call (.builtin "object.__setattr__") ⟨[.ref x, .str name tk, v], []⟩) R s := by
  have SF := PySem.F.store_object
  have hCs := X _ _ hC
  have ty : Looks (model prog w) s.heap (typeOf (.ref x)) (.ref C) := hcls ▸ (Looks.ld hx).andThen .now
  have mr : Looks (model prog w) s.heap (mroOf (.ref C)) (.ref C :: bmOf P) := (looks_clsIn X (C := C) (by unfold clsIn; rw [hC])).andThen .now
  have sub : Looks (model prog w) s.heap (isInstance (.ref x) (.type "object")) true := ty.andThen (looks_mroIn X (by unfold mroIn clsIn; rw [hC, Option.bind_some]; simp [bmOf]))
  refine codeAny_call_builtin SF.slot.plain SF.entry (@check_slot (model prog w) _ _ s "object.__setattr__" "object" "__setattr__" (.ref x) [.str name tk, v] [] _ SF.kind SF.split sub (SF.args (.ref x) (.str name tk) v) ?_)
  rw [osa_eq, refuse_eq]
  refine wpAny_bind (wpAny_bind (ty.here (wpAny_bind (mr.here ?_))))
  rw [refuseLoop_ref, bmOf, refuseLoop_ref, PySem.F.store_Exception.passes]
  refine wpAny_pure (wpAny_bind (ty.here (wpAny_bind ((looks_findIn X ha).here (wpAny_bind (Looks.now.here ?_))))))
  obtain ⟨hp, g, d, t, os⟩ := s
  dsimp only at hx hCs
  refine wpAny_bind (wpAny_pure ?_)
  refine wpAny_bind (m := ownDictForStores (.ref x)) ?_
  unfold ownDictForStores instanceDict
  refine wpAny_bind (wpAny_loadPart hx ?_)
  rw [hcls]
  refine wpAny_bind ((looks_clsIn X (C := C) (by unfold clsIn; rw [hC])).here ?_)
  simp only [Bool.not_true, Bool.false_eq_true, if_false]
  refine wpAny_bind (wpAny_pure ?_)
  rw [hdn]
  have hth : typeHasDict (.ref C) = true := rfl
  simp only [hth, Bool.not_true, Bool.or_false, Bool.false_eq_true, if_false, Bool.or_self]
  refine wpAny_bind (wpAny_pure ?_)
  rw [hd]
  have hx₁ : (hp.push { cls := .type "dict", data := .dict #[] }).get? x = some ox := Heap.get?_push_of_some _ hx
  have hxs : x ≠ hp.objs.size := Nat.ne_of_lt (Heap.lt_size hx)
  refine wpAny_bind (wpAny_alloc' ?_)
  refine wpAny_bind (wpAny_update' hx₁ ?_)
  refine wpAny_pure ?_
  have hgd : ((hp.push { cls := .type "dict", data := .dict #[] }).update x fun o => { cls := o.cls, dict := some hp.objs.size, data := o.data, slots := o.slots }).get? hp.objs.size
      = some { cls := .type "dict", data := .dict #[] } :=
    (Heap.get?_update_ne _ _ _ _ hxs.symm).trans (Heap.get?_push_at rfl rfl)
  have hnd : ((hp.push { cls := .type "dict", data := .dict #[] }).update x fun o => { cls := o.cls, dict := some hp.objs.size, data := o.data, slots := o.slots }).Ns hp.objs.size (fun _ => none) :=
    ⟨_, #[], _, hgd, rfl, fun e he => absurd he (by simp), fun _ => rfl⟩
  show wpAny _ _ (storeInDict hp.objs.size (.str name tk) name v) _ _ _
  unfold storeInDict newKeyGuard
  refine wpAny_bind (wpAny_pure (wpAny_bind (wpAny_nsSet1 (Heap.Ns1.of_empty hnd) fun h' hn' hs => ?_)))
  obtain ⟨oD, esD, epD, hoD, hdD, hcD⟩ := hn'.count (Within.cons name v Within.nil)
  refine wpAny_bind (wpAny_lookBehind hoD (by rw [hdD]; exact pastItsLine_dict (Nat.le_trans hcD (by rw [List.length_cons, List.length_nil, sizeLine_eq]; omega))) ?_)
  wp_walk
  have hx' : h'.get? x = some { cls := ox.cls, dict := some hp.objs.size, data := ox.data, slots := ox.slots } := by
    refine (hs.2 x hxs).trans (Heap.get?_update_self _ hx₁ ?_)
    show Obj.isFreed { cls := ox.cls, dict := some hp.objs.size, data := ox.data, slots := ox.slots } = false
    rw [hd]; rfl
  exact hq h' _ _ (fun b ob hbx hb => (hs.2 b (Nat.ne_of_lt (Heap.lt_size hb))).trans ((Heap.get?_update_ne _ _ _ _ hbx).trans (Heap.get?_push_of_some _ hb))) hx'
end
end Mine
end
section
open PySem PySem.W PyProof.Rows
set_option Elab.async false
set_option linter.unusedVariables false
set_option maxRecDepth 100000
namespace Mine
/-- an exception class of the program: its base has the `__init__` that keeps the message -/
structure OwnExc (K : Frag) (C P fI : Addr) : Prop where
  obj : ∃ nm q N bs sn sub ab col dd k0 k1 k2 k3 k5, K.lookup C = some (excClassObj nm q C N bs (bmOf P) true sn sub ab col dd k0 k1 k2 k3 k5 "Exception.__new__")
  init : findIn K (.ref C) "__init__" = some (some (.ref fI))
  set : findIn K (.ref C) "__setattr__" = some (some (.builtin "object.__setattr__"))
  msg : findIn K (.ref C) (Str.ofString "message") = some none
  fn : ∃ o fd, K.lookup fI = some o ∧ o.cls = .type "function" ∧ o.data = .func fd ∧ fd.scope.kind = .function ∧ fd.scope.isCoroutine = false ∧ fd.scope.isGenerator = false ∧
    fd.scope.names.lookup (Str.ofString "self") = some .local ∧ fd.scope.names.lookup (Str.ofString "message") = some .local ∧ (∀ x ∈ fd.scope.names, x.2 ≠ .cell) ∧ codeIn K fd.code fd.qualname = true ∧
    (∃ p1 p2 p3 p4, fd.body = .stmts [.Assign [.Attribute (.Name (Str.ofString "self") p1) (Str.ofString "message") p2] (.Name (Str.ofString "message") p3) p4]) ∧
    ∀ u v, bindArgs fd ⟨[u, v], []⟩ = pure [(Str.ofString "self", u), (Str.ofString "message", v)]
theorem weight_type_call (args : Args) : (Code.builtin "type.__call__" args).weight ≤ 1 := by
  have hf : (Code.builtin "type.__call__" args).frames = 0 := rfl
  have hg : (Code.builtin "type.__call__" args).isGuard = false := (by decide +kernel : guardIds.contains "type.__call__" = false)
  unfold Code.weight
  rw [hf, hg]
  have hk : (Code.builtin "type.__call__" args).isCaller = false := rfl
  rw [hk]
  split <;> simp
section
variable {prog : Program} {w : World} {A : Around} {R : Result → Shared → Prop} {E : Value → Shared → Prop} {s : Shared}
variable {K : Frag} {x C P fI : Addr} {v : Value} {ox : Obj} {ws : Array Value}
theorem own_init {Q : Value → Shared → Prop} (ex : OwnExc K C P fI) (X : K.In s.heap) (hroom : A.depth < recursionLimit) (hlim : s.heap.NoLimit)
    (hx : s.heap.get? x = some ox) (hcls : ox.cls = .ref C) (hd : ox.data = .fields ws) (hdn : ox.dict = none)
    (hq : ∀ h' dx tk', (∀ b o, b ≠ x → s.heap.get? b = some o → h'.get? b = some o) → h'.get? x = some { cls := ox.cls, dict := some dx, data := ox.data, slots := ox.slots } → Q .none { s with heap := h', toks := tk' }) :
    wpAny (model prog w) A (call (.ref fI) [.ref x, v]) Q E s := by
  obtain ⟨o, fd, hl, hfc, hdata, hk, hco, hgen, hs1, hs2, hcell, hcode, ⟨p1, p2, p3, p4, hbody⟩, hbind⟩ := ex.fn
  obtain ⟨nm, q, N, bs, sn, sub, ab, col, dd, k0, k1, k2, k3, k5, hC⟩ := ex.obj
  refine wpAny_call (codeAny_call_def (body := [.Assign [.Attribute (.Name (Str.ofString "self") p1) (Str.ofString "message") p2] (.Name (Str.ofString "message") p3) p4]) (binds := [(Str.ofString "self", .ref x), (Str.ofString "message", v)])
    hroom (X _ _ hl) hdata hlim (codeRec_of X hcode) hbody (.of_eq (hbind _ _)) hcell ?_ (fun h₀ hns kk => ?_) hco hgen hk)
  · intro y hy
    rcases List.mem_cons.mp hy with rfl | hy
    · exact hs1
    · rcases List.mem_cons.mp hy with rfl | hy
      · exact hs2
      · cases hy
  have k1' : (callEnv fd s.heap.objs.size fI).kindOf (Str.ofString "self") = some .local := hs1
  have k2' : (callEnv fd s.heap.objs.size fI).kindOf (Str.ofString "message") = some .local := hs2
  rw [execs_cons]
  refine wpAny_bind (wpAny_mono (plainObj_wpAny_Assign_Attribute (Q := fun f s' => f = .next ∧ Q .none s') ?_) (fun f s' ⟨e, q⟩ => ?_) fun _ _ z => z)
  · refine wpAny_Name (wpAny_loadName_local (v := v) hk k2' hns rfl ?_) (by decide)
    refine wpAny_Name (wpAny_loadName_local (v := .ref x) hk k1' hns rfl ?_) (by decide)
    have X' : K.In h₀ := X.keeps kk
    have hx' := kk _ _ hx
    refine set_plain (ox := ox) (od := none) (C := C) X' ⟨hx', hcls, by unfold notCls; rw [hd], by rw [hdn]; trivial⟩ ex.set ?_
    refine own_store (ox := ox) X' hC hx' hcls hd hdn ex.msg fun h' dx tk' k hx'' => ?_
    exact ⟨rfl, hq h' dx tk' (fun b o hb e => k b o hb (kk b o e)) hx''⟩
  · subst e
    exact wpAny_pure q
end
end Mine
end
section
open PySem PySem.W PyProof.Rows
set_option Elab.async false
set_option linter.unusedVariables false
set_option maxRecDepth 100000
namespace Mine
section
variable {F : FC} {c : Cx} {X : XP} {m : Loc} {H : AHeap} {C P fI : Addr}
theorem WCall_exc {y : Str} {Q : AV → AHeap → Prop} (ex : OwnExc (F.K c.w.params) C P fI) (hht : 1 ≤ F.ht) (hQ : ∀ e t, H e = none → Q (.ref e) (H.set e (.exc C t))) : WCall F c (.ref C) [.str y] Q X m H := by
  intro vf vs hf hi
  refine .mk fun h₀ s x => ?_
  obtain rfl : vf = .ref C := hf
  obtain ⟨u, r, rfl, ⟨tk, rfl⟩, h2⟩ := hi.cons_inv
  obtain rfl := h2.nil_inv
  have K := x.sta.K.keeps x.keep
  have hnl : s.heap.NoLimit := let ⟨_, _, _, _, T⟩ := x.sta.top; T.nolimit.keeps x.keep
  obtain ⟨nm, q, N, bs, sn, sub, ab, col, dd, k0, k1, k2, k3, k5, hC⟩ := ex.obj
  obtain ⟨oI, fd, hl, hfc, _⟩ := ex.fn
  have hd := x.ok.depth
  obtain ⟨hp, g, d, t, os⟩ := s
  refine wpC_any (own_call (K _ _ hC) (looks_findIn K ex.init) (K _ _ hl) hfc (fun h' e hm => ?_) (by rw [sizeLine_eq]; show 1 ≤ 16777216; decide))
  obtain ⟨tt, he, _, _⟩ := hm.there
  have hw := weight_type_call ⟨[.ref C, .str y tk], []⟩
  have e0 : hp.get? e = none := hm.new
  refine own_init (C := C) (s := ⟨h', g, d, t, os⟩) ex (K.keeps hm.keeps) ?_ (hnl.keeps hm.keeps) he rfl rfl rfl (fun h'' dx tk' k hx => ?_)
  · show c.A.depth + _ < recursionLimit
    omega
  · have kk : ∀ b o, hp.get? b = some o → h''.get? b = some o := fun b o q => k b o (fun z => by rw [z, e0] at q; cases q) (hm.keeps b o q)
    obtain ⟨x', hn⟩ := x.add (t := tk') (o := .exc C tt) kk e0 hx ⟨some dx, rfl⟩
    exact ⟨rfl, .ref e, _, x', rfl, hQ e tt hn⟩
theorem WE_CallCls {f : Expr} {args : List Expr} {pos : Pos} {Q : AV → AHeap → Prop} (ex : OwnExc (F.K c.w.params) C P fI)
    (h : WE F c f (fun fv H => fv = .ref C ∧ WSpl F c pos args (fun as H => WCall F c (.ref C) as Q X m H) X m H) X m H)
    (he : eval (.Call f args [] pos) c.env = (do callWith pos (← eval f c.env) [] (backTo pos (starEach args c.env)) []) := by rfl)
    (hs : args.all (fun e => !isStarred e) = true := by rfl) : WE F c (.Call f args [] pos) Q X m H := .mk fun h₀ s x => by
  rw [he]
  obtain ⟨hp, p2⟩ := plain_args (pos := pos) (env := c.env) hs
  refine wpC_then (h.run h₀ s x) fun v s1 ⟨a, H1, x1, i1, k, q1⟩ => ?_
  subst k
  obtain rfl : v = .ref C := i1
  unfold callWith
  refine wpC_bind (wpC_holding (evalArgs_C hp (wpC_mono (q1.run h₀ s1 x1) (fun vs s2 ⟨as, H2, x2, i2, q2⟩ => ?_) fun _ _ z => z)))
  refine wpC_at ?_
  have fin : wpC (model F.prog c.w) c.A (call (.ref C) ([] ++ vs) []) (fun v s' => PV F c h₀ m Q v s') (X h₀) s2 := (q2 _ _ rfl i2).run h₀ s2 x2
  have tail : ∀ {t : Sem Value}, wpC (model F.prog c.w) c.A t (fun v s' => PV F c h₀ m Q v s') (X h₀) s2 → wpC (model F.prog c.w) c.A (t >>= fun r => holding [r] point >>= fun _ => pure r) (fun v s' => PV F c h₀ m Q v s') (X h₀) s2 :=
    fun ht => wpC_then ht fun r s₂ hr => wpC_bind (wpC_holding (wpC_point (wpC_pure hr)))
  simp only [hp, List.any_nil, Bool.or_false]
  obtain ⟨nm, q, N, bs, sn, sub, ab, col, dd, k0, k1, k2, k3, k5, hC⟩ := ex.obj
  have hC' := x2.keep _ _ (x2.sta.K _ _ hC)
  refine wpC_bind (wpC_any ?_)
  obtain ⟨hp', g, d, t, os⟩ := s2
  exact wpAny_keeperOf_exc hC' (tail fin)
/-- what stands behind a raise -/
theorem raiseStmt_own {prog : Program} {w : World} {A : Around} {E : Value → Shared → Prop} {s : Shared} {env : Env} {x : Sem Value} {Q : Flow → Shared → Prop} (hh : A.handled = none)
    (h : wpC (model prog w) A x (fun v s₁ => ∃ e t dx, ∃ K : Frag, v = .ref e ∧ K.In s₁.heap ∧ OwnExc K C P fI ∧
      s₁.heap.get? e = some { cls := .ref C, dict := dx, data := .fields #[.ref t, .none, .none, .none, .bool false, .none] } ∧ E (.ref e) s₁) E s) :
    wpC (model prog w) A (raiseStmt env (some x) none) Q E s := by
  unfold raiseStmt
  refine wpC_bind (wpC_mono h (fun v s₁ h₁ => wpC_any ?_) fun _ _ x => x)
  obtain ⟨e, t, dx, K, rfl, KI, ex, he, hE⟩ := h₁
  obtain ⟨nm, q, N, bs, sn, sub, ab, col, dd, k0, k1, k2, k3, k5, hC⟩ := ex.obj
  have hC := KI _ _ hC
  obtain ⟨hp, g, d, tk, os⟩ := s₁
  repeat (first | with_reducible refine wpAny_loadPart_at he ?_ | with_reducible refine wpAny_loadPart_at hC ?_ | (with_reducible refine wpAny_isSubtype_exc hC ?_; rw [bm_base]) | wp_step)
  exact wpAny_raiseNew_none hh hE
end
end Mine
end
section
open PySem PySem.W PyProof.Rows
set_option Elab.async false
set_option linter.unusedVariables false
set_option maxRecDepth 100000
namespace Mine
section
variable {F : FC} {c : Cx} {X : XP} {m : Loc} {H : AHeap} {P fI : Addr} {G B : Heap} {outer : List Env}
/-- a raise: what is left to do behind the body -/
theorem WS_Raise {x : Expr} {pos : Pos} {Q : AFlow → Loc → AHeap → Prop} (ex : OwnExc (F.K c.w.params) 44 P fI) (hc : Here G B c outer)
    (h : WE F c x (fun av H => ∃ e t, av = .ref e ∧ H e = some (.exc 44 t)) noX m H) : WS F c (.Raise (some x) none pos) Q (LeaveX F G B c outer) m H := .mk fun h₀ s y => by
  show wpC _ _ (exec (.Raise (some x) none pos) c.env) _ _ _
  rw [arm_exec_Raise]
  refine wpC_at (raiseStmt_own (C := 44) (P := P) (fI := fI) y.ok.hh ?_)
  refine wpC_bind (wpC_mono (h.run h₀ s y) (fun v s1 ⟨av, H1, y1, i1, e, t, ha, hH⟩ => ?_) fun _ _ z => z.elim)
  subst ha
  obtain rfl : v = .ref e := i1
  refine wpC_at (wpC_pure ?_)
  obtain ⟨⟨ob, hg, dx, rfl⟩, hL, h0⟩ := y1.heap e _ hH
  refine ⟨e, t, dx, F.K c.w.params, rfl, y1.sta.K.keeps y1.keep, ex, hg, ?_⟩
  obtain ⟨hG, hB, hl⟩ := y1.frames hc y1.keep fun o q => q
  have hen : B.get? e = none := fresh_of_stays (hc.P _ y1.gp).2.1 h0
  refine wpAny_leaving_firstW (a0 := .ref t) hc.frames hl hc.frame hg hB hen rfl rfl rfl fun h' hL' => ?_
  obtain ⟨k1, ⟨_, _, k2⟩, k3, k4⟩ := hL'
  exact ⟨e, .ref t, rfl, ⟨k1, hen, k2, k3⟩, fun b o q hn => k4 b o (hG b o q) hn, y1.gens, y1.os⟩
end
section
variable {M : Model} {A : Around} {E : Value → Shared → Prop} {s : Shared}
theorem cameBack_held {base : Heap} {env : Env} {l : List Env} {e L : Addr} {cls a0 : Value} (hf : env.frame = some L) (R : Heap.HeldW base l e cls a0 L s.heap)
    (h : ∀ h', Heap.HeldW base l e cls a0 L h' → s.heap.UpToSlots h' → E (.ref e) { s with heap := h' }) : cameBackBy M A env E (.ref e) s := by
  obtain ⟨hkb, hen, hl, oe, vs, T, oT, ts, he, hcls, hd, h1, hnT, hTe, hT, hdT, h3⟩ := R
  have hsz3 : 3 < ts.size := (Array.getElem?_eq_some_iff.mp h3).1
  have other : ∀ b, b ≠ T → (s.heap.update T (Obj.mapFields (·.setIfInBounds 3 ((some L).elim Value.none fun f => rawInt f)))).get? b = s.heap.get? b :=
    fun b hb => Heap.get?_update_other _ _ (Ne.symm hb)
  have noRecord : ∀ b o, s.heap.get? b = some o → (∀ vs, o.data ≠ .fields vs) → b ≠ T := fun b o hb hnf q => by
    rw [q, hT] at hb; injection hb with hb; subst hb; exact hnf ts hdT
  unfold cameBackBy setFlight
  rw [hf]
  refine wpAny_bind (wpAny_field he hd h1 ?_)
  rw [if_neg (show ¬ ((Value.ref T == Value.none) = true) from by simp)]
  refine wpAny_bind (wpAny_field he hd h1 ?_)
  rw [if_pos (show (Value.ref T != Value.none) = true from by simp)]
  refine wpAny_setField hT hdT hsz3 (h _ ⟨fun b o hbo => (other b fun q => by rw [q, hnT] at hbo; cases hbo).trans (hkb b o hbo), hen,
    hl.of_keeps fun b o hb hnf => ⟨o, (other b (noRecord b o hb hnf)).trans hb, rfl⟩, ?_⟩ fun b o hb hnf => ⟨o.slots, (other b (noRecord b o hb hnf)).trans hb⟩)
  exact ⟨oe, vs, T, _, _, (other e (Ne.symm hTe)).trans he, hcls, hd, h1, hnT, hTe, Heap.get?_update_self _ hT (Obj.isFreed_of_fields (Obj.data_mapFields hdT _)), Obj.data_mapFields hdT _, by simp [hsz3]⟩
theorem leaves_held {base : Heap} {env : Env} {outer : List Env} {L e : Addr} {cls a0 : Value} {Q : Unit → Shared → Prop} (hf : env.frame = some L)
    (hh : Heap.HeldW base (env :: outer) e cls a0 L s.heap) (hQ : ∀ h', Heap.FlyingW base outer e cls a0 h' → s.heap.UpToSlots h' → Q () { s with heap := h' }) : wpAny M A (leaving env (.ref e)) Q E s := by
  unfold leaving
  refine wpAny_bind (wpAny_noteFrame_againW hf hh.2.2.2 ?_)
  refine wpAny_landsW hh fun h' ⟨k1, k2, ⟨_, _, k3⟩, k4⟩ u => hQ h' ⟨k1, k2, k3, k4⟩ u
end
/-- the exception has been looked at in the frame of c -/
def HeldX (G B : Heap) (c : Cx) (outer : List Env) : XP := fun _ v s' => ∃ e a0, v = .ref e ∧ Heap.HeldW B (c.env :: outer) e (.ref 44) a0 c.env.locals s'.heap ∧ G.UpToSlots s'.heap ∧ s'.gens = #[] ∧ s'.os = c.os
theorem leave_held {F : FC} {G B : Heap} {c : Cx} {outer : List Env} (hc : Here G B c outer) {h₀ : Heap} {v : Value} {s' : Shared} (h : HeldX G B c outer h₀ v s') : LeaveX F G B c outer h₀ v s' := by
  obtain ⟨e, a0, rfl, f, k, g, o⟩ := h
  exact leaves_held hc.frame f fun h' f' k' => ⟨e, a0, rfl, f', k.trans k', g, o⟩
theorem noted_fly {M : Model} {G B : Heap} {c : Cx} {outer : List Env} (hc : Here G B c outer) {h₀ : Heap} {v : Value} {s' : Shared} {E : Value → Shared → Prop} (h : FlyX G B c outer h₀ v s')
    (hE : ∀ v s'', HeldX G B c outer h₀ v s'' → E v s'') : notedBy M c.A c.env E v s' := by
  obtain ⟨e, a0, rfl, f, k, g, o⟩ := h
  exact wpAny_looks_onW hc.frames hc.frame f fun h' f' k' => hE _ _ ⟨e, a0, rfl, f', k.trans k', g, o⟩
theorem came_held {M : Model} {G B : Heap} {c : Cx} {outer : List Env} (hc : Here G B c outer) {h₀ : Heap} {v : Value} {s' : Shared} {E : Value → Shared → Prop} (h : HeldX G B c outer h₀ v s')
    (hE : ∀ v s'', HeldX G B c outer h₀ v s'' → E v s'') : cameBackBy M c.A c.env E v s' := by
  obtain ⟨e, a0, rfl, f, k, g, o⟩ := h
  exact cameBack_held hc.frame f fun h' f' k' => hE _ _ ⟨e, a0, rfl, f', k.trans k', g, o⟩
end Mine
end
section
open PySem PySem.W PyProof.Rows
set_option Elab.async false
set_option linter.unusedVariables false
set_option maxRecDepth 100000
namespace Mine
open Sem (wp)
def WLoopX (F : FC) (c : Cx) (asg : Asg) (body : List Stmt) (S : AHeap → Prop) (Q : AFlow → Loc → AHeap → Prop) (X : XP) : List AV → Loc → AHeap → Prop
  | [], m, H => S H ∧ Q .next m H
  | v :: r, m, H => S H ∧ asg v m H (fun m H => WSs F c body (loopQ (fun m H => WLoopX F c asg body S Q X r m H) Q) X m H)
section
variable {F : FC} {c : Cx} {h₀ : Heap} {m : Loc} {H : AHeap} {s : Shared} {G B : Heap} {outer : List Env}
/-- how a loop ends that may be left by an exception -/
def EndX (F : FC) (c : Cx) (h₀ : Heap) (Q : AFlow → Loc → AHeap → Prop) (G B : Heap) (outer : List Env) : Result → Shared → Prop
  | .ok f, s' => PF F c h₀ Q f s'
  | .error e, s' => HeldX G B c outer h₀ e s'
theorem for_codeX {target : Expr} {body : List Stmt} {asg : Asg} {S : AHeap → Prop} {Q : AFlow → Loc → AHeap → Prop} {I : Addr} {k : ItK} {xs : List AV} (hc : Here G B c outer) (hasg : AsgOk F c target asg)
    (x : St F c h₀ m H s) (hI : k.In s.heap I) (hIL : I ≠ c.env.locals) (hIH : H I = none) (hI0 : h₀.get? I = none) (hg : ∀ H', S H' → k.Gives H' xs) (hl : WLoopX F c asg body S Q (FlyX G B c outer) xs m H) :
    codeC (model F.prog c.w) c.A (.forLoop target (.ref I) body [] c.env) (EndX F c h₀ Q G B outer) s := by
  refine codeC_loop rfl rfl (fun n s => ∃ r m H, ∃ k : ItK, n = r.length ∧ St F c h₀ m H s ∧ k.In s.heap I ∧ H I = none ∧ (∀ H', S H' → k.Gives H' r) ∧ WLoopX F c asg body S Q (FlyX G B c outer) r m H) ?_ xs.length ⟨xs, m, H, k, rfl, x, hI, hIH, hg, hl⟩
  rintro n s ⟨r, m, H, k, rfl, x, hI, hIH, hg, hl⟩
  show wpC _ c.A ((forTurn target (.ref I) body [] c.env).onRaise (fun x => do noteFrame x c.env; theTreesLotGoes x)) _ _ s
  have fin : ∀ (E : Value → Shared → Prop), (∀ v s', FlyX G B c outer h₀ v s' → E v s') → wpC (model F.prog c.w) c.A (forTurn target (.ref I) body [] c.env) (fun fin s' =>
      match fin with
      | .done f => EndX F c h₀ Q G B outer (.ok f) s'
      | .again c' => (c' = .forLoop target (.ref I) body [] c.env ∧ ∃ m, m < r.length ∧ ∃ r m' H, ∃ k : ItK, m = r.length ∧ St F c h₀ m' H s' ∧ k.In s'.heap I ∧ H I = none ∧ (∀ H', S H' → k.Gives H' r) ∧ WLoopX F c asg body S Q (FlyX G B c outer) r m' H) ∨
          (c'.quiet = true ∧ codeC (model F.prog c.w) c.A c' (EndX F c h₀ Q G B outer) s')) E s := by
    intro E hE
    simp only [forTurn]
    refine wpC_at ?_
    cases r with
    | nil =>
      refine wpC_bind (wpC_onRaise (wpC_any (next_end x x.ok.hh hI (hg H hl.1) fun h' e' => ?_)))
      refine wpC_pure (.inr ⟨rfl, codeC_block (E := fun _ _ => False) (wpC_pure ?_)⟩)
      refine ⟨.next, m, H, ?_, rfl, hl.2⟩
      refine ⟨x.ok, x.sta, ?_, x.loc, x.nd, fun b o e => e' b o (fun q => by rw [q, hI0] at e; cases e) (x.keep b o e), x.newL, fun a o e => ?_, x.gens, x.os, x.gp⟩
      · obtain ⟨mm, n, hm⟩ := x.ns
        exact ⟨mm, n.extBut e' (Ne.symm hIL), hm⟩
      · obtain ⟨⟨ob, g, i⟩, r⟩ := x.heap a o e
        exact ⟨⟨ob, e' a ob (fun q => by rw [q, hIH] at e; cases e) g, i⟩, r⟩
    | cons v r =>
      refine wpC_bind (wpC_onRaise (wpC_any (next_item x hI (hg H hl.1) fun u h' t iu hI' sb => ?_)))
      have y : St F c h₀ m H { s with heap := h', toks := t } := by
        refine ⟨x.ok, x.sta, ?_, x.loc, x.nd, fun b o e => (sb.2 b fun q => by rw [q, hI0] at e; cases e).trans (x.keep b o e), x.newL, fun a o e => ?_, x.gens, x.os, x.gp⟩
        · obtain ⟨mm, n, hm⟩ := x.ns
          exact ⟨mm, n.sameBut sb (Ne.symm hIL), hm⟩
        · obtain ⟨⟨ob, g, i⟩, r⟩ := x.heap a o e
          exact ⟨⟨ob, (sb.2 a fun q => by rw [q, hIH] at e; cases e).trans g, i⟩, r⟩
      refine wpC_bind (wpC_any (hasg.2 I u _ hI'.cls _ _ ?_))
      have yl := y.inLoop
      have keepI : ∀ o, h'.get? I = some o → (loopG c H { s with heap := h', toks := t }).get? I = some o := fun o e => loopG_get e hIL hIH
      refine wpC_bind (wpC_mono (hasg.1 v m H _ hl.2 u _ _ iu yl) (fun _ s2 ⟨m2, H2, y2, q2⟩ => ?_) fun _ _ z => z.elim)
      refine wpC_bind (wpC_mono (q2.run _ _ y2) (fun f s3 ⟨af, m3, H3, y3, i3, q3⟩ => ?_) fun v s4 z => hE v s4 z)
      have z3 := y.outLoop y3
      have fI : ∃ o, (loopG c H { s with heap := h', toks := t }).get? I = some o := let ⟨o, e, _⟩ := hI'.cls; ⟨o, keepI o e⟩
      have hI3 : k.succ.In s3.heap I := hI'.keep fun o e => y3.keep _ _ (keepI o e)
      have hH3 : H3 I = none := by
        cases q : H3 I with
        | none => rfl
        | some o =>
          obtain ⟨o', e'⟩ := fI
          have := (y3.heap I o q).2.2
          rw [e'] at this; cases this
      have again : WLoopX F c asg body S Q (FlyX G B c outer) r m3 H3 → _ := fun q => (⟨rfl, r.length, Nat.lt_succ_self _, r, m3, H3, k.succ, rfl, z3, hI3, hH3, fun H' sH => ItK.succ_gives (hg H' sH), q⟩ : Code.forLoop target (.ref I) body [] c.env = .forLoop target (.ref I) body [] c.env ∧ ∃ m, m < r.length + 1 ∧ ∃ r m' H, ∃ k : ItK, m = r.length ∧ St F c h₀ m' H s3 ∧ k.In s3.heap I ∧ H I = none ∧ (∀ H', S H' → k.Gives H' r) ∧ WLoopX F c asg body S Q (FlyX G B c outer) r m' H)
      cases af with
      | next => cases i3; exact wpC_pure (.inl (again q3))
      | cont => cases i3; exact wpC_pure (.inl (again q3))
      | brk => cases i3; exact wpC_pure ⟨.next, m3, H3, z3, rfl, q3⟩
      | ret a => obtain ⟨w, rfl, iw⟩ := i3; exact wpC_pure ⟨.ret a, m3, H3, z3, ⟨w, rfl, iw⟩, q3⟩
  refine wpC_noted (wpC_mono (fin _ fun v s' z => noted_fly (h₀ := h₀) hc z fun v s'' q => q) (fun fin s' q => ?_) fun _ _ z => z)
  exact q
theorem WS_ForX {target iter : Expr} {body : List Stmt} {pos : Pos} {asg : Asg} {Q : AFlow → Loc → AHeap → Prop} (hc : Here G B c outer) (hasg : AsgOk F c target asg)
    (h : WE F c iter (fun it H => ∃ xs S H', IterOf H it xs S ∧ H'.Sub H ∧ WLoopX F c asg body S Q (FlyX G B c outer) xs m H') noX m H)
    (hs : ∀ x, foldedSetIterable iter c.env x = pure x := by intro _; rfl) : WS F c (.For target iter body [] pos) Q (LeaveX F G B c outer) m H := .mk fun h₀ s x => by
  show wpC _ _ (exec (.For target iter body [] pos) c.env) _ _ _
  rw [exec_For]
  refine wpC_at (wpC_bind (wpC_mono (h.run h₀ s x) (fun u s1 ⟨it, H1, x1, i1, xs, S, H', hi, sub, hl⟩ => ?_) fun _ _ z => z.elim))
  rw [hs]
  refine wpC_bind (wpC_pure (wpC_at ?_))
  refine wpC_bind (wpC_holding (wpC_any (iter_new x1 hi i1 fun k ob hf hI hg => ?_)))
  have hI0 : h₀.get? s1.heap.objs.size = none := by
    cases q : h₀.get? s1.heap.objs.size with
    | none => rfl
    | some o => exact absurd (Heap.lt_size (x1.keep _ _ q)) (Nat.lt_irrefl _)
  have hIL : s1.heap.objs.size ≠ c.env.locals := fun e => by
    obtain ⟨mm, ⟨oL, es, ep, ho, _⟩, _⟩ := x1.ns
    have := Heap.lt_size ho
    rw [← e] at this; exact Nat.lt_irrefl _ this
  have hIH : H1 s1.heap.objs.size = none := by
    cases q : H1 s1.heap.objs.size with
    | none => rfl
    | some o => obtain ⟨⟨ob', g, _⟩, _⟩ := x1.heap _ o q; exact absurd (Heap.lt_size g) (Nat.lt_irrefl _)
  have y := ((x1.grow (t := s1.toks) (h' := s1.heap.push ob) fun b o e => Heap.get?_push_of_some _ e).weak sub)
  refine wpC_runOwn ?_
  have hm : c.A.mark none = c.A := rfl
  rw [hm]
  have r := for_codeX hc hasg y hI hIL (sub.none hIH) hI0 hg hl
  intro Γ p hcd hΓ h2
  refine wpCode_mono ?_ (r Γ p hcd hΓ h2)
  intro r s' q
  cases r with
  | ok f => exact q
  | error e => exact came_held (h₀ := h₀) hc q fun v s'' z => leave_held hc z
end
end Mine
end
section
open PySem PySem.W PyProof.Rows
set_option Elab.async false
set_option linter.unusedVariables false
set_option maxRecDepth 100000
namespace Mine
section
variable {F : FC} {c : Cx} {X : XP} {m : Loc} {H : AHeap}
theorem WE_fstr {lit x : Str} {k : Nat} {p1 p2 p3 pos : Pos} {t : Int} {Q : AV → AHeap → Prop} (hv : At m x (.int t)) (hd : t.natAbs.log2 < 1920) (h1 : (Str.empty ++ lit).length ≤ sizeLine) (h2 : (Str.empty ++ lit ++ (toString t : Str)).length ≤ sizeLine)
    (h : ∀ y, Q (.str y) H) : WE F c (.JoinedStr [.Constant (.str lit) k p1, .FormattedValue (.Name x p2) (-1) none p3] pos) Q X m H := .mk fun h₀ s y => by
  obtain ⟨hk', hdb⟩ := y.loc x (List.mem_map.mpr ⟨_, hv.mem, rfl⟩)
  have hk : c.env.kindOf x = some .local := by
    unfold Env.kindOf; rw [y.ok.scope]; exact hk'
  obtain ⟨mm, hn, hmm⟩ := y.ns
  obtain ⟨u, hu, tk, rfl⟩ := hmm x _ hv.mem
  refine wpC_any (JoinedStr_many (joinParts_cons (wpAny_Constant_str ⟨h1, ?_⟩)))
  refine joinParts_cons (FormattedValue_plain (wpAny_Name (wpAny_loadName_local (by rw [y.ok.scope]; exact y.ok.kind) hk hn hu (formatField_int_small hd ⟨h2, ?_⟩)) hdb))
  exact joinParts_nil ⟨.str _, H, y.toks _, ⟨_, rfl⟩, h _⟩ h2
end
end Mine
end
section
open PySem PySem.W PyProof.Rows
set_option Elab.async false
set_option linter.unusedVariables false
set_option maxRecDepth 100000
namespace Mine
section
variable {prog : Program} {w : World} {A : Around} {E : Value → Shared → Prop} {s : Shared} {env : Env}
theorem wpC_Try {body : List Stmt} {h0 : ExceptHandler} {pos : Pos} {Q : Flow → Shared → Prop}
    (h : wpC (model prog w) A (execs body env) (fun f s₁ => f ≠ .next ∧ Q f s₁)
      (fun e s₁ => wpAny (model prog w) A (noteFrame e env) (fun _ s₂ => wpAny (model prog w) A (setFlight e none) (fun _ s₃ => wpAny (model prog w) A (handleBy e env [h0]) Q E s₃) E s₂) E s₁) s) :
    wpC (model prog w) A (exec (.Try body [h0] [] [] pos) env) Q E s := by
  rw [arm_exec_Try]
  refine wpC_bind (wpC_standAt ?_)
  unfold tryStmt
  simp only [List.isEmpty_nil, if_true, List.isEmpty_cons, Bool.false_and, Bool.false_eq_true, if_false]
  refine wpC_bind (wpC_attempt (wpC_mono h (fun f s₁ ⟨h₀, h₁⟩ => ?_) fun e s₁ h₁ => ?_))
  · cases f <;> first | exact absurd rfl h₀ | exact wpC_pure h₁
  · exact wpC_any (wpAny_bind (wpAny_mono h₁ (fun _ _ h₂ => wpAny_bind h₂) fun _ _ x => x))
end
/-- nothing known -/
def noH : AHeap := fun _ => none
section
variable {F F' : FC} {c : Cx} {m : Loc} {H : AHeap}
theorem WCall_catch {a : Addr} {p cn : Str} {body rest : List Stmt} {e0 : Expr} {np pe p1 p2 p3 p4 : Pos} {k : Nat} {v : AV} {P fI : Addr} {Q : AV → AHeap → Prop} (fn : Fn F' a [p] body c.w.params) (hK : F'.K = F.K) (hp : F'.prog = F.prog) (ht : F'.ht < F.ht)
    (hbody : body = .Try [.Expr e0 pe] [.ExceptHandler (some (.Name cn np)) none [.Return (some (.Constant (.bool true) k p1)) p2] p3] [] [] p4 :: rest)
    (hloc : F'.scope.names.lookup p = some .local ∧ (p == ("__debug__" : Str)) = false) (hcell : ∀ x ∈ F'.scope.names, x.2 ≠ .cell)
    (hex : OwnExc (F.K c.w.params) 44 P fI) (hg : nsIn (F.K c.w.params) mainGlobals cn = some (some (.ref 44))) (hcn : F'.scope.names.lookup cn = some .globalImplicit ∧ (cn == ("__debug__" : Str)) = false)
    (hfr : c.A.frames = some [c.env]) (hf : c.env.frame = some c.env.locals)
    (hsw : ∀ env, swapsWith e0 none pe.line env = pure false)
    (hw : ∀ (G B : Heap) (c' : Cx), c'.w = c.w → Here G B c' [c.env] → WE F' c' e0 (fun _ _ => False) (FlyX G B c' [c.env]) [(p, some v)] noH) (hq : Q (.bool true) H) : WCall F c (.ref a) [v] Q noX m H := by
  intro vf vs hvf hi
  refine .mk fun h₀ s x => ?_
  obtain rfl : vf = .ref a := hvf
  have hck : c.env.scope.kind ≠ .module := by rw [x.ok.scope, x.ok.kind]; decide
  obtain ⟨o, fd, hl, hd, e1, e2, e3, e4, e5, e6, e7⟩ := fn.obj
  have hvl : vs.length = [p].length := hi.length
  have K := x.sta.K.keeps x.keep
  rw [hK] at hl e6
  have hnl : s.heap.NoLimit := let ⟨_, _, _, _, T⟩ := x.sta.top; T.nolimit.keeps x.keep
  refine wpC_call (codeC_call_def (binds := [p].zip vs) (body := body) (Nat.lt_of_le_of_lt (Nat.le_add_right _ _) x.ok.depth) (K _ _ hl) hd hnl (codeRec_of K e6) e5 (.of_eq (e7 vs hvl)) (by rw [e1]; exact fn.cor) (by rw [e1]; exact fn.gen) ?_)
  have hkz : ∀ y ∈ [p].zip vs, fd.scope.names.lookup y.1 = some .local := fun y hy => by
    rw [e1, List.mem_singleton.mp (List.of_mem_zip hy).1]; exact hloc.1
  refine wpAny_newFunctionEnv (by rw [e1]; exact hcell) hkz (fun h' hns sb => ?_) (by rw [e1]; exact fn.kind)
  have kk : ∀ b ob, s.heap.get? b = some ob → h'.get? b = some ob := fun b ob e => sb.extBut b ob (Nat.ne_of_lt (Heap.lt_size e)) (Heap.get?_push_of_some _ e)
  refine ⟨hnl.keeps kk, codeC_func ?_⟩
  let env' := newEnv fd.scope s.heap.objs.size fd.globals fd.closure (fd.qualname ++ ".<locals>.") (some a) fd.code none fd.builtins
  let B := hideAll s.heap [c.env.locals]
  let c' : Cx := { w := c.w, A := c.A.deeper env', env := env', os := c.os, P := fun h => s.heap.StaysIn h ∧ B.StaysIn h ∧ h.FunFrames B [c.env] }
  have hBG : B.StaysIn s.heap := fun b o q => of_hideAll _ q
  have h0B : h₀.StaysIn B := fun b o q => hideAll_get _ (x.keep b o q) fun z => by
    rw [List.mem_singleton.mp z, x.newL] at q; cases q
  have hlocals : s.heap.FunFrames B [c.env] := by
    obtain ⟨mm, ⟨oL, es, ep, ho, hdl, _⟩, _⟩ := x.ns
    exact ⟨hck, ⟨c.env.locals, oL, hf, hideAll_none _ List.mem_cons_self, ho, fun ws => by rw [hdl]; nofun⟩, trivial⟩
  have y : St F' c' s.heap [(p, some v)] noH { s with heap := h', toks := s.toks + ([p].zip vs).length } := by
    refine ⟨⟨fn.kind, e1, e2, e3, x.ok.hh, ?_, ?_, fun h h' k q => ⟨fun b o e => k b o (q.1 b o e), fun b o e => k b o (q.2.1 b o e), q.2.2.of_keeps fun b o e _ => ⟨o, k b o e, rfl⟩⟩⟩, ⟨hK ▸ K, let ⟨p, l, mg, mb, T⟩ := x.sta.top; ⟨p, l, mg, mb, T.keeps x.keep⟩⟩, ⟨_, hns, fun z u hz => ?_⟩, fun z hz => ?_, ?_, kk, Heap.get?_none_of_le (Nat.le_refl _), fun b ob e => (nomatch e), x.gens, x.os, fun b o e => e, hBG, hlocals⟩
    · have := x.ok.depth
      show c.A.depth + 1 + F'.ht < recursionLimit
      lia
    · have := x.ok.units
      show c.A.units + 3 + 8 * F'.ht + 80 < cLine
      lia
    · exact lookup_zip_reverse (ps := [p]) (as := [v]) (by simp) hi z u hz
    · obtain rfl : z = p := by simpa using hz
      exact hloc
    · simp
  have here : Here s.heap B c' [c.env] := ⟨by show (c.A.deeper env').frames = _; exact Around.frames_deeper hfr, rfl, fun _ q => q⟩
  subst hbody
  have fin : wpC (model F'.prog c'.w) c'.A (execs (.Try [.Expr e0 pe] [.ExceptHandler (some (.Name cn np)) none [.Return (some (.Constant (.bool true) k p1)) p2] p3] [] [] p4 :: rest) c'.env)
      (fun f s' => f = .ret (.bool true) ∧ B.StaysIn s'.heap ∧ s.heap.UpToSlots s'.heap ∧ s'.gens = #[] ∧ s'.os = c.os) (fun _ _ => False) { s with heap := h', toks := s.toks + ([p].zip vs).length } := by
    rw [execs_cons]
    refine wpC_bind (wpC_mono (wpC_Try (Q := fun f s' => f = .ret (.bool true) ∧ B.StaysIn s'.heap ∧ s.heap.UpToSlots s'.heap ∧ s'.gens = #[] ∧ s'.os = c.os) ?_) (fun f s' q => ?_) fun _ _ z => z)
    · have hs : WSs F' c' [.Expr e0 pe] (fun _ _ _ => False) (FlyX s.heap B c' [c.env]) [(p, some v)] noH := WSs_cons (WS_Expr ((hw _ _ c' rfl here).mono fun _ _ z => z.elim) (hsw _))
      refine wpC_mono (hs.run _ _ y) (fun f s' ⟨_, _, _, _, _, z⟩ => z.elim) fun e s' z => ?_
      obtain ⟨ea, a0, rfl, fl, u1, gs, os⟩ := z
      refine wpAny_looks_onW here.frames here.frame fl fun h4 held4 u4 => wpAny_landsW held4 fun h5 fl5 u5 => ?_
      have u5' := (u1.trans u4).trans u5
      have st5 : h₀.StaysIn h5 := fun b o q => fl5.1 b o (h0B b o q)
      obtain ⟨nm, q, N, bs, sn, sub, ab, col, dd, k0, k1, k2, k3, k5, hC⟩ := hex.obj
      have hC5 := st5 _ _ (x.sta.K _ _ hC)
      obtain ⟨oe, he, hec⟩ := fl5.there
      have hkc : env'.kindOf cn = some .globalImplicit := by
        show fd.scope.names.lookup cn = _
        rw [e1]; exact hcn.1
      obtain ⟨pp, loose, mg, mb, T⟩ := x.sta.top
      refine wpAny_handleBy_cons (codeAny_handlers_test (PySem.Calls.Name_function_global (by show fd.scope.kind = .function; rw [e1]; exact fn.kind) hkc (PySem.Calls.loadGlobal_global (mg := mg) ?_ (mg_of x.sta.K T.g hg) ?_) hcn.2)) (by intro q; cases q)
      · show h5.Ns fd.globals mg
        rw [e2]; exact T.g.keeps st5
      · refine wpAny_excMatches_sub_self (bm := bmOf P) hC5 he hec (by simp [bmOf]) ?_
        refine codeAny_handlers_suite (lands_againW fl5 fun h6 fl6 u6 => ?_)
        rw [execs_cons]
        refine wpAny_bind ?_
        rw [exec_Return_some]
        refine wpAny_bind (wpAny_standAt (wpAny_bind (wpAny_pure ?_)))
        exact wpAny_pure (wpAny_pure ⟨rfl, fl6.1, u5'.trans u6, gs, os⟩)
    · obtain ⟨rfl, q⟩ := q
      exact wpC_pure ⟨rfl, q⟩
  rw [← hp]
  refine wpC_mono fin (fun f s' ⟨hf', q1, q2, q3, q4⟩ => ?_) fun _ _ z => z.elim
  subst hf'
  refine ⟨.bool true, H, ?_, rfl, hq⟩
  refine ⟨x.ok, x.sta, ?_, x.loc, x.nd, fun b o e => q1 b o (h0B b o e), x.newL, fun b o e => ?_, q3, q4, x.gp⟩
  · obtain ⟨mm, n, hm⟩ := x.ns
    exact ⟨mm, q2.ns n, hm⟩
  · obtain ⟨⟨ob, g, i⟩, nL, n0⟩ := x.heap b o e
    exact ⟨⟨ob, q1 b ob (hideAll_get _ g fun z => nL (List.mem_singleton.mp z)), i⟩, nL, n0⟩
end
end Mine
end
section
open PySem PySem.W PyProof.Rows
set_option Elab.async false
set_option linter.unusedVariables false
set_option maxRecDepth 100000
namespace Mine

/-- the first call: of a def with a list of ints, from outside all frames -/
theorem entryC {F' : FC} {w : World} {A : Around} {s : Shared} {a b : Addr} {ob : Obj} {ns : List Int} {zs : Array Value} {zn : Nat} {p : Str} {ls : List Str} {body : List Stmt} {m0 : Loc} {ci : Str → Option AV} {cl : Nat → List (Str × Addr)} (fn : Fn F' a [p] body w.params) (KI : (F'.K w.params).In s.heap) (hT : ∃ p l mg mb, TopRead p l mg mb s.heap) (hob : s.heap.get? b = some ob) (hcls : ob.cls = .type "list") (hdat : ob.data = .seq zs zn) (hints : IntsAre zs.toList ns)
    (hKl : ∀ a o, (F'.K w.params).lookup a = some o → ob.cls ≠ o.cls) (hgens : s.gens = #[]) (hh : A.handled = none) (hdep : A.depth + 1 + F'.ht < recursionLimit) (hun : A.units + 3 + 8 * F'.ht + 80 < cLine)
    (hcl : ∀ n, cellsFrom n F'.scope.names [] = cl n) (hcd : ∀ n, ((cl n).map (·.1)).Nodup) (hm0 : m0.map (·.1) = (if F'.scope.names.lookup p = some .local then [p] else []) ++ ls)
    (hpk : F'.scope.names.lookup p = some .local ∨ (F'.scope.names.lookup p = some .cell ∧ ∀ n, ((cl n).lookup p).isSome = true))
    (hloc : ∀ x ∈ m0.map (·.1), F'.scope.names.lookup x = some .local ∧ (x == ("__debug__" : Str)) = false) (hnd : (m0.map (·.1)).Nodup)
    (hval : ∀ z w, (z, some w) ∈ m0 → z = p ∧ w = .ref b ∧ F'.scope.names.lookup p = some .local)
    (hci : ∀ z w, ci z = some w → z = p ∧ w = .ref b ∧ ¬ F'.scope.names.lookup p = some .local) (hcn : ∀ n x b, (cl n).lookup x = some b → ci x = none → x ≠ p)
    (h : ∀ (c' : Cx) (n : Nat) (H' : AHeap), c'.w = w → c'.A = A.deeper c'.env → c'.env.frame = some c'.env.locals → c'.env.cells = cl n → (noH.set b (.script ob ns)).Sub H' → (∀ x d, (cl n).lookup x = some d → H' d = some (.cell (ci x))) → (∀ x y b, (x, b) ∈ cl n → (y, b) ∈ cl n → x = y) → WSs F' c' body (retQ fun v H => v = .bool true ∧ H b = some (.script ob ns)) noX m0 H') :
    wpC (model F'.prog w) A (call (.ref a) [.ref b]) (fun v s' => v = .bool true ∧ (∀ d o, s.heap.get? d = some o → s'.heap.get? d = some o) ∧ s'.gens = #[] ∧ s'.os = s.os) (fun _ _ => False) s := by
  let H : AHeap := noH.set b (.script ob ns)
  have hH : ∀ d o, H d = some o → d = b ∧ o = .script ob ns := fun d o e => by
    have e : noH.set b (.script ob ns) d = some o := e
    unfold AHeap.set at e
    split at e
    · rename_i q; cases e; exact ⟨q, rfl⟩
    · cases e
  let g0 := hideAll s.heap [b]
  have g2 : ∀ d o, g0.get? d = some o → s.heap.get? d = some o := fun d o e => of_hideAll _ e
  have g3 : ∀ d o, s.heap.get? d = some o → d ≠ b → g0.get? d = some o := fun d o e q => hideAll_get _ e fun z => q (List.mem_singleton.mp z)
  have g4 : g0.get? b = none := hideAll_none _ List.mem_cons_self
  have gK : (F'.K w.params).In g0 := fun d o e => g3 d o (KI d o e) fun q => by
    subst q
    have := KI _ _ e
    rw [hob] at this
    exact hKl _ _ e (congrArg Obj.cls (Option.some.inj this))
  have gNs : ∀ d mm, s.heap.Ns d mm → g0.Ns d mm := fun d mm ⟨od, es, ep, e, hdd, r⟩ => ⟨od, es, ep, g3 d od e (fun q => by
    subst q
    rw [hob] at e
    rw [← Option.some.inj e, hdat] at hdd
    cases hdd), hdd, r⟩
  have gT : ∃ p l mg mb, TopRead p l mg mb g0 := let ⟨p, l, mg, mb, T⟩ := hT; ⟨p, l, mg, mb, gNs _ _ T.g, gNs _ _ T.b, let ⟨mc, n, z⟩ := T.nolimit; ⟨mc, gNs _ _ n, z⟩, T.builtins, T.free⟩
  have hr := enterC (g := g0) (H := H) (u := .ref b) (v := .ref b) (Q := retQ fun v H => v = .bool true ∧ H b = some (.script ob ns)) fn rfl KI (let ⟨_, _, _, _, T⟩ := hT; T.nolimit) g2 gK gT (fun d o e => by
    obtain ⟨rfl, rfl⟩ := hH d o e
    exact ⟨⟨ob, hob, rfl, hcls, zs, zn, hdat, hints⟩, g4⟩) hgens hh hdep hun hcl hcd hm0 hpk hloc hnd hval hci hcn fun c' n H' h1 h2 h3 h4 h5 h6 h7 => h c' n H' h1 h2 h3 h4 h5 (fun x d e => (h6 x d e).1) h7
  refine wpC_mono hr (fun r s' ⟨c', f, ⟨af, m', H', z, i, q⟩, ho, e⟩ => ?_) fun _ _ z => z.elim
  subst e
  have fin : ∀ H2 : AHeap, H2.Sub H' → H2 b = some (.script ob ns) → (∀ d o, s.heap.get? d = some o → s'.heap.get? d = some o) ∧ s'.gens = #[] ∧ s'.os = s.os := fun H2 k q => by
    refine ⟨fun d o e => ?_, z.gens, z.os.trans ho⟩
    by_cases hb : d = b
    · subst hb
      obtain ⟨⟨ob', e', i'⟩, _⟩ := z.heap _ _ (k _ _ q)
      rw [hob] at e; cases e
      rw [e', i'.1]
    · exact z.keep d o (g3 d o e hb)
  cases af with
  | next => cases i; obtain ⟨H2, k, q, _⟩ := q; cases q
  | brk => cases i; obtain ⟨H2, k, q, _⟩ := q; cases q
  | cont => cases i; obtain ⟨H2, k, q, _⟩ := q; cases q
  | ret v => obtain ⟨u, rfl, i⟩ := i; obtain ⟨H2, k, q, q2⟩ := q; subst q; exact ⟨i, fin H2 k q2⟩
end Mine
end
section
open PySem PySem.W PyProof.Rows PySem.Calls
set_option Elab.async false
set_option linter.unusedVariables false
namespace Mine

/-- the context that the claim's caller really has -/
def topCtx : Ctx := ⟨.builtin "claim.caller" {}, none, none, [], none⟩

theorem ends_here {prog : Program} {w : World} {t : Sem Fin} {s : Shared} {R : Result → Shared → Prop} (hreg : s.asleep)
    (h : wpC (model prog w) callerA t (fun fin s' => ∃ f, fin = .done f ∧ R (.ok f) s' ∧ AllBare s'.gens) (fun e s' => R (.error e) s' ∧ AllBare s'.gens) s) :
    ∃ n r s' s'', runN (denote table) prog w n s ⟨t, .builtin "claim.caller" {}, default, []⟩ = .halted (outcomeOf r) s' ∧
      schedN (denote table) prog w n (.single s ⟨t, .builtin "claim.caller" {}, default, []⟩) = .halted (outcomeOf r) s' ∧ s'.forget = s''.forget ∧ R r s'' := by
  have h0 := h topCtx default caller_in (by decide) (fun x hx => by cases hx)
  have h1 : Sem.wp (model prog w) topCtx t (Sem.finPost (model prog w) topCtx fun r s' => R r s' ∧ leftWithCleanup s'.gens = false)
      (fun e _ s' => R (.error e) s' ∧ leftWithCleanup s'.gens = false) default s := by
    refine Sem.wp_mono _ _ _ (fun fin p s' hf => ?_) (fun e p s' he => ⟨he.1, leftWithCleanup_false_of_bare he.2⟩) _ _ h0
    obtain ⟨f, rfl, hR, hb⟩ := hf
    exact ⟨hR, leftWithCleanup_false_of_bare hb⟩
  obtain ⟨n, r, s₁, s₂, a, b, c, d⟩ := wp_halts_full (M := model prog w) (R := R) hreg h1
  exact ⟨n, r, s₂, s₁, b, a, c, d⟩

theorem from_here {c : ClaimW} {tree : List Value → Sem Fin} {w : World} {s : Shared} {free : Addr → Prop} {gens : Prop} {kept : Heap → Prop} (hz : s.asleep) (hgens : s.gens = #[])
    (spec : ∀ args, c.pre args = true → WData.layableAll args = true → ∀ ord : List DictEntry → List DictEntry, (∀ l, (ord l).Perm l) →
      ∃ vs s₁, layAllW c.records (classAt s.heap) w.params ord args s = some (vs, s₁) ∧
        wpC (model c.prog w) callerA (tree vs) (fun fin s' => ∃ f, fin = .done f ∧ (c.Ends s args vs s₁ (.ok f) s' ∧ s'.os = s.os ∧ kept s'.heap) ∧ AllBare s'.gens)
          (fun e s' => (c.Ends s args vs s₁ (.error e) s' ∧ s'.os = s.os ∧ kept s'.heap) ∧ AllBare s'.gens) s₁) :
    c.CallFrom (fun vs => ⟨tree vs, .builtin "claim.caller" {}, default, []⟩) w free gens kept s := by
  intro args hpre hlay ord hord
  obtain ⟨vs, s₁, hl, h⟩ := spec args hpre hlay ord hord
  have rest := layAllW_rest _ _ _ hl
  obtain ⟨k, r, s', s'', hrun, hsch, hfo, hE, hos, hk⟩ := ends_here (R := fun r s' => c.Ends s args vs s₁ r s' ∧ s'.os = s.os ∧ kept s'.heap) (Shared.asleep_of_life rest.2.2.2 hz) h
  obtain ⟨eh, _, _, eo, _⟩ := Shared.forget_eq hfo
  have hE := hE.congr eh
  have hk' : kept s'.heap := by rw [eh]; exact hk
  have hos' : s'.os = s.os := by rw [eo]; exact hos
  have hlife : s'.heap.life = s.heap.life := (runN_life _ _ _ hrun).trans rest.2.2.2
  refine ⟨vs, s₁, hl, k, _, s', hsch, ?_, (fun _ i x hx => by rw [hgens] at hx; simp at hx), hk', by rw [hlife], Shared.rest_eq hos'⟩
  rcases hE with ⟨v, rfl, d1, d2, d3, d4, d5⟩ | ⟨e, ob, cls, rfl, d1, d2, d3, d4, d5⟩
  · exact .inl ⟨v, rfl, d1, d2, d3, fun b o y _ => d4 b o y, d5⟩
  · exact .inr ⟨e, ob, cls, rfl, d1, d2, d3, d4, fun b o y _ => d5 b o y⟩

theorem holds_mine {r : OpenRow} {q : Program} {loose : List Str} {Xt : Shared → Bool} {XP : (Str → Option Value) → Heap → Prop} {α : Type} {Yf : Shared → α} {Ya : World → α} {YP : World → Heap → Prop} {d : DefRec} {kwd : List (Str × Expr)} {N : Nat}
    (left : LeftO r.prog q loose Xt Yf Ya N) (hY : ∀ w s, Yf s = Ya w → YP w s.heap) (hYk : ∀ w h h', YP w h → (∀ b o, h.get? b = some o → h'.get? b = some o) → YP w h')
    (hX : ∀ s, Xt s = true → XP (s.heap.nsMap mainGlobals) s.heap) (hXk : ∀ mg h h', XP mg h → (∀ b o, h.get? b = some o → h'.get? b = some o) → XP mg h')
    (hdef : defOf q r.name = some (d, kwd)) (hp : r.prog.theDef r.name = some (d.params, d.body, d.scope)) (hk : kwWritten? d.params.kwonlyargs d.params.kw_defaults = some kwd) (hRf : ∀ s, Xt s = true → RecFacts r.records s.heap) (hwr : (!r.writes || r.records.isEmpty) = true)
    (k1 : r.wellSaid = true) (ok : (chainsOk q && opensWell r.prog && (frees r.toRowW && r.within.isEmpty)) = true) (hb : r.prog.bare) (hw : r.toRowW.promised)
    (call : ∀ (w : World) (s₀ s₁ : Shared) (mg mb : Str → Option Value), Ground q loose r.records XP w s₀ mg mb s₁.heap → YP w s₁.heap → ∀ (a : Addr) (o : Obj) (pm cd doc dV kV : Value), s₁.heap.get? a = some o →
      o.data = .func { docDef d.name d.params d.body d.scope pm cd doc with defaults := dV, kwdefaults := kV } → s₁.heap.CodeRec cd d.name → Dflts mg s₁.heap d.params kwd dV kV → mg d.name = some (.ref a) → s₁.gens = #[] →
      ∀ (args : List WData) (vals : List Value) (as : List Addr), r.toRowW.claim.pre args = true → WData.layableAll args = true → ReadsAllW r.records (classAt s₀.heap) s₁.heap vals args as → WellAll w.params s₁.heap vals args → (∀ a ∈ as, (a == sysModules) = false) →
        wpC (model r.prog w) callerA (PySem.call (.ref a) vals) (fun v s' => GoodWG r.toRowW.claim (classAt s₀.heap) (ExcName.means s₀.heap) args s₁ (.ok (.ret v)) s')
          (fun e s' => GoodWG r.toRowW.claim (classAt s₀.heap) (ExcName.means s₀.heap) args s₁ (.error e) s') s₁) : r.Holds := by
  obtain ⟨ok1, ok2⟩ := Bool.and_eq_true_iff.mp ok
  obtain ⟨hch, o1⟩ := Bool.and_eq_true_iff.mp ok1
  obtain ⟨k5, k6⟩ := Bool.and_eq_true_iff.mp ok2
  obtain ⟨hsame, hu, ha, hap, hm⟩ := frees_parts k5
  refine ⟨k1, hw, ⟨hb, o1, by show r.makers.map _ = []; rw [show r.makers = [] from hm]; rfl⟩, hw.witness, fun w => ⟨(left.behind hX hch w).1, fun s' hs' => ?_⟩⟩
  obtain ⟨s₀, hf, hg0, s, hT, hz, hgens, hg, G0, y⟩ := (left.behind (XP := fun mg h => XP mg h ∧ RecFacts r.records h) (fun s hs => ⟨hX s hs, hRf s hs⟩) hch w).2 s' hs'
  have RF := G0.X.2
  have G1 : Ground q loose [] XP w s (s.heap.nsMap mainGlobals) (s.heap.nsMap builtinsNs) s.heap := ⟨G0.T, G0.B, G0.D, G0.TE, G0.TD, G0.W, G0.X.1, G0.cls, G0.has, G0.apart, G0.once, G0.K⟩
  refine ⟨s₀, hf, hg0, s, hT, fun n hn => ?_, RF.1, RF.2.1, ?_⟩
  · obtain rfl : n = r.name := by split at hn <;> simp_all
    exact pinned_of_view hg G1 hdef hp hk
  have hgens : s.gens = #[] := Array.eq_empty_of_size_eq_zero (beq_iff_eq.mp hgens)
  have G : Ground q loose r.records XP w s _ _ s.heap := RF.ground G1
  refine from_here (c := r.toRowW.claim) hz hgens fun args hpre hlay ord hord => ?_
  obtain ⟨⟨vs, s₁⟩, hl⟩ := Option.isSome_iff_exists.mp (layAllW_isSome (P := w.params) (ord := ord) G.has args r.toRowW.args s (pre_splitW hpre).1)
  have keeps := layAllW_keeps _ _ _ hl
  have rest := layAllW_rest _ _ _ hl
  obtain ⟨as, hrd, hin, hold⟩ := reads_layAllW hord _ _ _ hl hlay s₁.heap (fun _ _ e => e)
  have L : Laid r.records w s s₁ args vs as := ⟨⟨ord, hord, hl⟩, hrd, hin, hold, keeps, rest.1.trans hgens, rest.2.2.1⟩
  have G₁ := G.keeps hXk keeps
  obtain ⟨a, o, pm, cd, doc, dV, kV, h1, h2, h3, h4, h5⟩ := G₁.fn hdef
  have h := call w s s₁ _ _ G₁ (hYk _ _ _ (hY w s y) keeps) a o pm cd doc dV kV h2 h3 h4 h5 (defOf_name hdef ▸ h1) L.gens args vs as hpre hlay L.reads L.well (L.low G.low)
  have hwi : r.toRowW.claim.within = [] := List.isEmpty_iff.mp k6
  refine ⟨vs, s₁, hl, ?_⟩
  refine wpC_bind (wpC_any (wpAny_nsGet G₁.T.g ?_))
  have hn : s.heap.nsMap mainGlobals r.name = some (.ref a) := defOf_name hdef ▸ h1
  rw [hn]
  refine wpC_bind (wpC_mono h (fun v s' g => wpC_pure ⟨_, rfl, ?_⟩) fun e s' g => ?_)
  · have z := g.laid (c := r.toRowW.claim) hsame hwi (ident_freeW hu ha hap) L
    exact ⟨⟨z.1, z.2.1, fun qq => ⟨namesKept_of hT hg _ keeps g.2.1.old, noTable hwr qq⟩⟩, z.2.2⟩
  · have z := g.laid (c := r.toRowW.claim) hsame hwi (ident_freeW hu ha hap) L
    exact ⟨⟨z.1, z.2.1, fun qq => ⟨namesKept_of hT hg _ keeps g.2.1.old, noTable hwr qq⟩⟩, z.2.2⟩
end Mine
end
section
open PySem PySem.W PyProof.Rows
set_option Elab.async false
set_option linter.unusedVariables false
set_option maxRecDepth 100000
namespace Mine
def stmtAt (i : Nat) : Stmt := (PySem.Challenge.pw_nt0103_01.main.body[i]?).getD (.Pass ⟨0,0,0,0⟩)
def bodyAt (i : Nat) : List Stmt := match stmtAt i with | .FunctionDef _ _ b .. => b | _ => []
def scopeAt (i : Nat) : Scope := match stmtAt i with | .FunctionDef _ _ _ _ _ _ sc .. => sc | _ => default
def nameAt (i : Nat) : Str := match stmtAt i with | .FunctionDef n .. => n | _ => Str.empty
def argsAt (i : Nat) : Arguments := match stmtAt i with | .FunctionDef _ a .. => a | _ => default
/-- the object of the def that is statement i -/
def fnO (i : Nat) (mo : Value) (c : Addr) : Obj :=
  { cls := .type "function", data := .func { name := nameAt i, qualname := nameAt i, params := argsAt i, body := .stmts (bodyAt i), scope := scopeAt i, globals := 3, closure := [], defaults := .none, kwdefaults := .none, pyModule := mo, code := .ref c } }
/-- the code objects: without and with names of a block within -/
def codeO (n : Str) (a t l k u : Nat) : Obj :=
  { cls := .type "code", data := .fields #[.str n t, .str n (t + 1), .str (Str.ofString "/claim/cut.py") (t + 2), .int l 0, .int k 0, .int 0 0, .int 0 0, .int 3 0, .ref a, .bool true, .int 181 0, .ref (a + 1), .none, .ref (a + 2), .ref (a + 3), .ref (a + 4), .int u 0, .int l 0, .str (Str.ofString "/claim/cut.py") (u + 1)] }
def codeN (n : Str) (a t l k u : Nat) : Obj :=
  { cls := .type "code", data := .fields #[.str n t, .str n (t + 1), .str (Str.ofString "/claim/cut.py") (t + 2), .int l 0, .int k 0, .int 0 0, .int 0 0, .int 3 0, .ref a, .bool true, .int 181 0, .ref (a + 1), .none, .none, .none, .ref (a + 2), .int u 0, .int l 0, .str (Str.ofString "/claim/cut.py") (u + 1)] }
def ent (P : Params) (x : Str) (t : Nat) (v : Value) : DictEntry := { hash := PyData.keyHash P x, key := .str x t, val := v }
def mo0 : Value := .str (Str.ofString "pagebase.errors") 187
def mo1 : Value := .str (Str.ofString "pagebase.values") 250
def mo2 : Value := .str (Str.ofString "pagebase.records") 307
def mo3 : Value := .str (Str.ofString "law_nt0103_01") 472
def initBody : List Stmt := match stmtAt 1 with | .ClassDef (body := [.FunctionDef _ _ b ..]) .. => b | _ => []
def initScope : Scope := match stmtAt 1 with | .ClassDef (body := [.FunctionDef _ _ _ _ _ _ sc ..]) .. => sc | _ => default
def initArgs : Arguments := match stmtAt 1 with | .ClassDef (body := [.FunctionDef _ a ..]) .. => a | _ => default
/-- what stands at the top once the text has been run: what the walks look at -/
noncomputable def KF (P : Params) : Frag := [
  (3, { cls := .type "dict", data := .dict #[ent P (Str.ofString "__name__") 165 (.str (Str.ofString "law_nt0103_01") 472), ent P (Str.ofString "__doc__") 166 (.none), ent P (Str.ofString "__package__") 167 (.none), ent P (Str.ofString "__loader__") 168 (.builtin "__main__.__loader__#opaque"), ent P (Str.ofString "__spec__") 169 (.none), ent P (Str.ofString "__annotations__") 170 (.ref 6), ent P (Str.ofString "__builtins__") 171 (.ref 4), ent P (Str.ofString "__file__") 173 (.str (Str.ofString "/claim/cut.py") 172), ent P (Str.ofString "__cached__") 174 (.none), ent P (Str.ofString "PagebaseError") 217 (.ref 31), ent P (Str.ofString "CorruptError") 233 (.ref 44), ent P (Str.ofString "MisuseError") 249 (.ref 56), ent P (Str.ofString "WORD") 255 (.int 18446744073709551616 254), ent P (Str.ofString "REPLACEMENT") 258 (.str (Str.ofString "�") 257), ent P (Str.ofString "utf8") 268 (.ref 65), ent P (Str.ofString "lead_of") 275 (.ref 72), ent P (Str.ofString "text_of") 286 (.ref 79), ent P (Str.ofString "code_at") 299 (.ref 86), ent P (Str.ofString "storage_class") 306 (.ref 93), ent P (Str.ofString "NUMBER_SIZES") 316 (.ref 94), ent P (Str.ofString "ZERO_TYPE") 318 (.int 8 317), ent P (Str.ofString "ONE_TYPE") 320 (.int 9 319), ent P (Str.ofString "BLOB_TYPE") 322 (.int 12 321), ent P (Str.ofString "TEXT_TYPE") 324 (.int 13 323), ent P (Str.ofString "put_varint") 334 (.ref 101), ent P (Str.ofString "get_varint") 345 (.ref 108), ent P (Str.ofString "signed") 352 (.ref 115), ent P (Str.ofString "put_fixed") 363 (.ref 122), ent P (Str.ofString "get_fixed") 374 (.ref 129), ent P (Str.ofString "number_type") 383 (.ref 136), ent P (Str.ofString "serial_type") 391 (.ref 143), ent P (Str.ofString "serial_size") 398 (.ref 150), ent P (Str.ofString "body_of") 406 (.ref 157), ent P (Str.ofString "value_of") 417 (.ref 164), ent P (Str.ofString "head_size") 425 (.ref 171), ent P (Str.ofString "encode_record") 436 (.ref 178), ent P (Str.ofString "head_of") 447 (.ref 185), ent P (Str.ofString "decode_record") 458 (.ref 192), ent P (Str.ofString "record_column") 471 (.ref 199), ent P (Str.ofString "_law_pool") 484 (.ref 206), ent P (Str.ofString "_law_take") 493 (.ref 213), ent P (Str.ofString "_law_one") 501 (.ref 220), ent P (Str.ofString "_law_varint") 511 (.ref 227), ent P (Str.ofString "_law_body") 523 (.ref 234), ent P (Str.ofString "_law_record") 536 (.ref 241), ent P (Str.ofString "_law_number") 545 (.ref 248), ent P (Str.ofString "_law_value") 551 (.ref 253), ent P (Str.ofString "_law_varints_right") 565 (.ref 260), ent P (Str.ofString "_law_alike") 573 (.ref 267), ent P (Str.ofString "_law_record_right") 584 (.ref 274), ent P (Str.ofString "_law_types_right") 594 (.ref 281), ent P (Str.ofString "_law_refused") 601 (.ref 288), ent P (Str.ofString "law") 607 (.ref 293)] 53 }),
  (27, { cls := .type "code", data := .fields #[.str (Str.ofString "__init__") 201, .str (Str.ofString "PagebaseError.__init__") 202, .str (Str.ofString "/claim/cut.py") 203, .int 4 0, .int 2 0, .int 0 0, .int 0 0, .int 3 0, .ref 22, .bool true, .int 181 0, .ref 23, .none, .ref 24, .ref 25, .ref 26, .int 206 0, .int 4 0, .str (Str.ofString "/claim/cut.py") 207] }),
  (28, { cls := .type "function", data := .func { name := Str.ofString "__init__", qualname := Str.ofString "PagebaseError.__init__", params := initArgs, body := .stmts initBody, scope := initScope, globals := 3, closure := [], defaults := .none, kwdefaults := .none, pyModule := mo0, code := .ref 27 } }),
  (30, { cls := .type "dict", data := .dict #[ent P (Str.ofString "__module__") 196 mo0, ent P (Str.ofString "__firstlineno__") 200 (.int 2 199), ent P (Str.ofString "__init__") 208 (.ref 28), ent P (Str.ofString "__static_attributes__") 210 (.ref 29), ent P (Str.ofString "__weakref__") 212 (.ref 32), ent P (Str.ofString "__doc__") 213 .none] 3 }),
  (31, { cls := .type "type", data := .cls { name := Str.ofString "PagebaseError", bases := [.type "Exception"], mro := [.ref 31, .type "Exception", .type "BaseException", .type "object"], ns := 30, qualname := Str.ofString "PagebaseError", subclasses := [.ref 44, .ref 56] }, slots := #[some (.ref 15), none, some (.str (Str.ofString "PagebaseError") 189), some (.str (Str.ofString "PagebaseError") 197), some (.builtin "Exception.__new__"), some (.bool true)] }),
  (43, { cls := .type "dict", data := .dict #[ent P (Str.ofString "__module__") 225 mo0, ent P (Str.ofString "__firstlineno__") 229 (.int 6 228), ent P (Str.ofString "__static_attributes__") 230 (.ref 42), ent P (Str.ofString "__doc__") 231 .none] 2 }),
  (44, { cls := .type "type", data := .cls { name := Str.ofString "CorruptError", bases := [.ref 31], mro := [.ref 44, .ref 31, .type "Exception", .type "BaseException", .type "object"], ns := 43, qualname := Str.ofString "CorruptError" }, slots := #[some (.ref 35), none, some (.str (Str.ofString "CorruptError") 218), some (.str (Str.ofString "CorruptError") 226), some (.builtin "Exception.__new__"), some (.bool true)] }),
  (94, { cls := .type "tuple", data := .seq #[.int 0 309, .int 1 310, .int 2 311, .int 3 312, .int 4 313, .int 6 314, .int 8 315] }),
  (64, codeO (Str.ofString "utf8") 59 259 13 1 266),
  (65, fnO 7 mo1 64),
  (71, codeO (Str.ofString "lead_of") 66 269 32 1 273),
  (72, fnO 8 mo1 71),
  (78, codeO (Str.ofString "text_of") 73 276 42 1 284),
  (79, fnO 9 mo1 78),
  (85, codeO (Str.ofString "code_at") 80 287 57 3 297),
  (86, fnO 10 mo1 85),
  (92, codeO (Str.ofString "storage_class") 87 300 68 1 304),
  (93, fnO 11 mo1 92),
  (100, codeO (Str.ofString "put_varint") 95 325 84 1 332),
  (101, fnO 18 mo2 100),
  (107, codeO (Str.ofString "get_varint") 102 335 101 2 343),
  (108, fnO 19 mo2 107),
  (114, codeO (Str.ofString "signed") 109 346 114 1 350),
  (115, fnO 20 mo2 114),
  (121, codeO (Str.ofString "put_fixed") 116 353 118 2 361),
  (122, fnO 21 mo2 121),
  (128, codeO (Str.ofString "get_fixed") 123 364 126 3 372),
  (129, fnO 22 mo2 128),
  (135, codeO (Str.ofString "number_type") 130 375 133 1 381),
  (136, fnO 23 mo2 135),
  (142, codeO (Str.ofString "serial_type") 137 384 143 1 389),
  (143, fnO 24 mo2 142),
  (149, codeO (Str.ofString "serial_size") 144 392 152 1 396),
  (150, fnO 25 mo2 149),
  (156, codeO (Str.ofString "body_of") 151 399 160 2 404),
  (157, fnO 26 mo2 156),
  (163, codeO (Str.ofString "value_of") 158 407 168 3 415),
  (164, fnO 27 mo2 163),
  (170, codeO (Str.ofString "head_size") 165 418 184 1 423),
  (171, fnO 28 mo2 170),
  (177, codeO (Str.ofString "encode_record") 172 426 189 1 434),
  (178, fnO 29 mo2 177),
  (184, codeO (Str.ofString "head_of") 179 437 197 1 445),
  (185, fnO 30 mo2 184),
  (191, codeO (Str.ofString "decode_record") 186 448 208 1 456),
  (192, fnO 31 mo2 191),
  (198, codeO (Str.ofString "record_column") 193 459 217 2 469),
  (199, fnO 32 mo2 198),
  (205, codeO (Str.ofString "_law_pool") 200 474 231 2 482),
  (206, fnO 34 mo3 205),
  (212, codeO (Str.ofString "_law_take") 207 485 238 2 491),
  (213, fnO 35 mo3 212),
  (219, codeO (Str.ofString "_law_one") 214 494 245 2 499),
  (220, fnO 36 mo3 219),
  (226, codeO (Str.ofString "_law_varint") 221 502 247 1 509),
  (227, fnO 37 mo3 226),
  (233, codeO (Str.ofString "_law_body") 228 512 260 1 521),
  (234, fnO 38 mo3 233),
  (240, codeO (Str.ofString "_law_record") 235 524 278 1 534),
  (241, fnO 39 mo3 240),
  (247, codeO (Str.ofString "_law_number") 242 537 288 1 543),
  (248, fnO 40 mo3 247),
  (252, codeN (Str.ofString "_law_value") 249 546 293 1 549),
  (253, fnO 41 mo3 252),
  (259, codeO (Str.ofString "_law_varints_right") 254 552 304 1 563),
  (260, fnO 42 mo3 259),
  (266, codeO (Str.ofString "_law_alike") 261 566 321 2 571),
  (267, fnO 43 mo3 266),
  (273, codeO (Str.ofString "_law_record_right") 268 574 327 2 582),
  (274, fnO 44 mo3 273),
  (280, codeO (Str.ofString "_law_types_right") 275 585 341 1 592),
  (281, fnO 45 mo3 280),
  (287, codeO (Str.ofString "_law_refused") 282 595 347 1 599),
  (288, fnO 46 mo3 287),
  (292, codeN (Str.ofString "law") 289 602 353 1 605),
  (293, fnO 47 mo3 292)]
def asK : List Addr := [3, 27, 28, 30, 31, 43, 44, 94, 64, 65, 71, 72, 78, 79, 85, 86, 92, 93, 100, 101, 107, 108, 114, 115, 121, 122, 128, 129, 135, 136, 142, 143, 149, 150, 156, 157, 163, 164, 170, 171, 177, 178, 184, 185, 191, 192, 198, 199, 205, 206, 212, 213, 219, 220, 226, 227, 233, 234, 240, 241, 247, 248, 252, 253, 259, 260, 266, 267, 273, 274, 280, 281, 287, 288, 292, 293]
def vw : Program := view PySem.Challenge.pw_nt0103_01 [47]
def loo : List Str := [Str.ofString "PagebaseError", Str.ofString "CorruptError", Str.ofString "MisuseError", Str.ofString "WORD", Str.ofString "REPLACEMENT", Str.ofString "NUMBER_SIZES", Str.ofString "ZERO_TYPE", Str.ofString "ONE_TYPE", Str.ofString "BLOB_TYPE", Str.ofString "TEXT_TYPE", Str.ofString "utf8", Str.ofString "lead_of", Str.ofString "text_of", Str.ofString "code_at", Str.ofString "storage_class", Str.ofString "put_varint", Str.ofString "get_varint", Str.ofString "signed", Str.ofString "put_fixed", Str.ofString "get_fixed", Str.ofString "number_type", Str.ofString "serial_type", Str.ofString "serial_size", Str.ofString "body_of", Str.ofString "value_of", Str.ofString "head_size", Str.ofString "encode_record", Str.ofString "head_of", Str.ofString "decode_record", Str.ofString "record_column", Str.ofString "_law_pool", Str.ofString "_law_take", Str.ofString "_law_one", Str.ofString "_law_varint", Str.ofString "_law_body", Str.ofString "_law_record", Str.ofString "_law_number", Str.ofString "_law_value", Str.ofString "_law_varints_right", Str.ofString "_law_alike", Str.ofString "_law_record_right", Str.ofString "_law_types_right", Str.ofString "_law_refused"]
theorem left (w : World) : (openEnds treeTable PySem.Challenge.pw_nt0103_01 w 4000).map (fun s => (openSeen vw loo (importedModules PySem.Challenge.pw_nt0103_01.main.body) (fun s => xlAt vw [] s && recOk [] s) true s, asK.map s.heap.get?)) = some (openGood vw loo, (KF w.params).map fun p => some p.2) := by
  unfold openEnds fencedOpening topFrom
  rw [PySem.W.Fast.te14364793385576792824, PySem.W.Fast.te10274390034422433532, PySem.W.Fast.te1435165496053646825, PySem.W.Fast.te14289696077712309145, PySem.W.Fast.te14082659384304107361]
  kernel_rfl
end Mine
end
section
open PySem PySem.W PyProof.Rows PySem.Calls
set_option Elab.async false
set_option linter.unusedVariables false
set_option maxRecDepth 100000
set_option maxHeartbeats 4000000
namespace Mine
theorem said : PySem.Challenge.rw_nt0103_01.wellSaid = true := by
  unfold OpenLaw.wellSaid
  repeat' first | with_reducible refine look_both ?_ ?_ | unfold OpenRow.wellSaid | unfold OpenRow.partSaid | unfold looksOpen
  all_goals decide +kernel
theorem head (call : ∀ (w : World) (s₀ s₁ : Shared) (mg mb : Str → Option Value) (a : Addr), (∃ p l mg mb, TopRead p l mg mb s₁.heap) → s₁.heap.Ns mainGlobals mg → (KF w.params).In s₁.heap → mg (Str.ofString "law") = some (.ref a) → s₁.gens = #[] →
      ∀ (args : List WData) (vals : List Value) (as : List Addr), PySem.Challenge.rw_nt0103_01.row.toRowW.claim.pre args = true → WData.layableAll args = true → ReadsAllW [] (classAt s₀.heap) s₁.heap vals args as → WellAll w.params s₁.heap vals args → (∀ a ∈ as, (a == sysModules) = false) →
        wpC (model PySem.Challenge.pw_nt0103_01 w) callerA (PySem.call (.ref a) vals) (fun v s' => GoodWG PySem.Challenge.rw_nt0103_01.row.toRowW.claim (classAt s₀.heap) (ExcName.means s₀.heap) args s₁ (.ok (.ret v)) s')
          (fun e s' => GoodWG PySem.Challenge.rw_nt0103_01.row.toRowW.claim (classAt s₀.heap) (ExcName.means s₀.heap) args s₁ (.error e) s') s₁) : PySem.Challenge.rw_nt0103_01.Holds := by
  refine holds_law said fun sd => ?_
  refine holds_mine (q := vw) (loose := loo) (Xt := fun s => xlAt vw [] s && recOk [] s) (XP := XL vw []) (Yf := (kHook KF asK fun _ => rfl).obs) (Ya := (kHook KF asK fun _ => rfl).val) (YP := (kHook KF asK fun _ => rfl).says) (N := 4000) left (kHook KF asK fun _ => rfl).of (kHook KF asK fun _ => rfl).keeps
    (fun s e => xl_of s (Bool.and_eq_true_iff.mp e).1) XL.keeps (by rfl) (by rfl) (by rfl) (fun s e => recFacts_of (Bool.and_eq_true_iff.mp e).2) (by rfl) sd (by decide +kernel) ⟨rfl, rfl, rfl, rfl, rfl, by decide +kernel⟩ ?hw ?hc
  case hw => w_witness2
  case hc =>
    intro w s₀ s₁ mg mb G Y a o pm cd doc dV kV h1 h2 h3 h4 h5 hg args vals as hpre hlay hrd hwl hlo
    exact call w s₀ s₁ mg mb a ⟨_, _, _, _, topRead_of G.T⟩ G.T.g Y h5 hg args vals as hpre hlay hrd hwl hlo
end Mine
end
section
open PySem PySem.W PyProof.Rows
set_option Elab.async false
set_option linter.unusedVariables false
set_option maxRecDepth 100000
namespace Mine
theorem bind1 {fd : FuncData} {p : Str} (h : ∀ a, bindArgs fd ⟨[a], []⟩ = pure [(p, a)]) (vs : List Value) (e : vs.length = [p].length) : bindArgs fd ⟨vs, []⟩ = pure ([p].zip vs) := by
  cases vs with
  | nil => cases e
  | cons a r => cases r with
    | nil => exact h a
    | cons b r => cases e
theorem bind2 {fd : FuncData} {p q : Str} (h : ∀ a b, bindArgs fd ⟨[a, b], []⟩ = pure [(p, a), (q, b)]) (vs : List Value) (e : vs.length = [p, q].length) : bindArgs fd ⟨vs, []⟩ = pure ([p, q].zip vs) := by
  cases vs with
  | nil => cases e
  | cons a r => cases r with
    | nil => cases e
    | cons b r => cases r with
      | nil => exact h a b
      | cons c r => cases e
theorem bind3 {fd : FuncData} {p q r : Str} (h : ∀ a b c, bindArgs fd ⟨[a, b, c], []⟩ = pure [(p, a), (q, b), (r, c)]) (vs : List Value) (e : vs.length = [p, q, r].length) : bindArgs fd ⟨vs, []⟩ = pure ([p, q, r].zip vs) := by
  cases vs with
  | nil => cases e
  | cons a r => cases r with
    | nil => cases e
    | cons b r => cases r with
      | nil => cases e
      | cons c r => cases r with
        | nil => exact h a b c
        | cons d r => cases e
noncomputable abbrev FG (sc : Scope) (ht : Nat) : FC := { prog := PySem.Challenge.pw_nt0103_01, K := KF, scope := sc, ht := ht }
structure FOk (F : FC) (n : Nat) : Prop where
  K : F.K = KF
  prog : F.prog = PySem.Challenge.pw_nt0103_01
  ht : n < F.ht
theorem fn_utf8 (P : Params) : Fn (FG (scopeAt 7) 1) 65 [Str.ofString "text"] (bodyAt 7) P :=
  ⟨⟨_, _, rfl, rfl, by kernel_rfl, rfl, rfl, rfl, by kernel_rfl, by kernel_rfl, bind1 fun a0 => by kernel_rfl⟩, by kernel_rfl, by kernel_rfl, by kernel_rfl⟩
theorem g_utf8 (P : Params) : nsIn (KF P) mainGlobals (Str.ofString "utf8") = some (some (.ref 65)) := rfl
theorem o_utf8 (P : Params) : ∃ o fd, (KF P).lookup 65 = some o ∧ o.data = .func fd := ⟨_, _, rfl, rfl⟩
theorem body_utf8 {F : FC} {c : Cx} {X : XP} {m : Loc} {H : AHeap} {v0 : AV} {Q : AV → AHeap → Prop} (ok : FOk F 1)
    (h : ∀ c' : Cx, c'.w = c.w → WSs (FG (scopeAt 7) 1) c' (bodyAt 7) (retQ Q) noX [(Str.ofString "text", some v0), (Str.ofString "found", none), (Str.ofString "sign", none), (Str.ofString "code", none)] H) : WCall F c (.ref 65) [v0] Q X m H :=
  WCall_def (ls := [Str.ofString "found", Str.ofString "sign", Str.ofString "code"]) (fn_utf8 _) ok.K.symm ok.prog.symm ok.ht rfl (by decide +kernel) (by decide +kernel) (by decide +kernel) h
theorem fn_lead_of (P : Params) : Fn (FG (scopeAt 8) 1) 72 [Str.ofString "octet"] (bodyAt 8) P :=
  ⟨⟨_, _, rfl, rfl, by kernel_rfl, rfl, rfl, rfl, by kernel_rfl, by kernel_rfl, bind1 fun a0 => by kernel_rfl⟩, by kernel_rfl, by kernel_rfl, by kernel_rfl⟩
theorem g_lead_of (P : Params) : nsIn (KF P) mainGlobals (Str.ofString "lead_of") = some (some (.ref 72)) := rfl
theorem o_lead_of (P : Params) : ∃ o fd, (KF P).lookup 72 = some o ∧ o.data = .func fd := ⟨_, _, rfl, rfl⟩
theorem body_lead_of {F : FC} {c : Cx} {X : XP} {m : Loc} {H : AHeap} {v0 : AV} {Q : AV → AHeap → Prop} (ok : FOk F 1)
    (h : ∀ c' : Cx, c'.w = c.w → WSs (FG (scopeAt 8) 1) c' (bodyAt 8) (retQ Q) noX [(Str.ofString "octet", some v0)] H) : WCall F c (.ref 72) [v0] Q X m H :=
  WCall_def (ls := []) (fn_lead_of _) ok.K.symm ok.prog.symm ok.ht rfl (by decide +kernel) (by decide +kernel) (by decide +kernel) h
theorem fn_text_of (P : Params) : Fn (FG (scopeAt 9) 2) 79 [Str.ofString "octets"] (bodyAt 9) P :=
  ⟨⟨_, _, rfl, rfl, by kernel_rfl, rfl, rfl, rfl, by kernel_rfl, by kernel_rfl, bind1 fun a0 => by kernel_rfl⟩, by kernel_rfl, by kernel_rfl, by kernel_rfl⟩
theorem g_text_of (P : Params) : nsIn (KF P) mainGlobals (Str.ofString "text_of") = some (some (.ref 79)) := rfl
theorem o_text_of (P : Params) : ∃ o fd, (KF P).lookup 79 = some o ∧ o.data = .func fd := ⟨_, _, rfl, rfl⟩
theorem body_text_of {F : FC} {c : Cx} {X : XP} {m : Loc} {H : AHeap} {v0 : AV} {Q : AV → AHeap → Prop} (ok : FOk F 2)
    (h : ∀ c' : Cx, c'.w = c.w → WSs (FG (scopeAt 9) 2) c' (bodyAt 9) (retQ Q) noX [(Str.ofString "octets", some v0), (Str.ofString "signs", none), (Str.ofString "at", none), (Str.ofString "lead", none), (Str.ofString "code", none)] H) : WCall F c (.ref 79) [v0] Q X m H :=
  WCall_def (ls := [Str.ofString "signs", Str.ofString "at", Str.ofString "lead", Str.ofString "code"]) (fn_text_of _) ok.K.symm ok.prog.symm ok.ht rfl (by decide +kernel) (by decide +kernel) (by decide +kernel) h
theorem fn_code_at (P : Params) : Fn (FG (scopeAt 10) 1) 86 [Str.ofString "octets", Str.ofString "at", Str.ofString "lead"] (bodyAt 10) P :=
  ⟨⟨_, _, rfl, rfl, by kernel_rfl, rfl, rfl, rfl, by kernel_rfl, by kernel_rfl, bind3 fun a0 a1 a2 => by kernel_rfl⟩, by kernel_rfl, by kernel_rfl, by kernel_rfl⟩
theorem g_code_at (P : Params) : nsIn (KF P) mainGlobals (Str.ofString "code_at") = some (some (.ref 86)) := rfl
theorem o_code_at (P : Params) : ∃ o fd, (KF P).lookup 86 = some o ∧ o.data = .func fd := ⟨_, _, rfl, rfl⟩
theorem body_code_at {F : FC} {c : Cx} {X : XP} {m : Loc} {H : AHeap} {v0 v1 v2 : AV} {Q : AV → AHeap → Prop} (ok : FOk F 1)
    (h : ∀ c' : Cx, c'.w = c.w → WSs (FG (scopeAt 10) 1) c' (bodyAt 10) (retQ Q) noX [(Str.ofString "octets", some v0), (Str.ofString "at", some v1), (Str.ofString "lead", some v2), (Str.ofString "follow", none), (Str.ofString "code", none), (Str.ofString "least", none), (Str.ofString "place", none)] H) : WCall F c (.ref 86) [v0, v1, v2] Q X m H :=
  WCall_def (ls := [Str.ofString "follow", Str.ofString "code", Str.ofString "least", Str.ofString "place"]) (fn_code_at _) ok.K.symm ok.prog.symm ok.ht rfl (by decide +kernel) (by decide +kernel) (by decide +kernel) h
theorem fn_storage_class (P : Params) : Fn (FG (scopeAt 11) 1) 93 [Str.ofString "v"] (bodyAt 11) P :=
  ⟨⟨_, _, rfl, rfl, by kernel_rfl, rfl, rfl, rfl, by kernel_rfl, by kernel_rfl, bind1 fun a0 => by kernel_rfl⟩, by kernel_rfl, by kernel_rfl, by kernel_rfl⟩
theorem g_storage_class (P : Params) : nsIn (KF P) mainGlobals (Str.ofString "storage_class") = some (some (.ref 93)) := rfl
theorem o_storage_class (P : Params) : ∃ o fd, (KF P).lookup 93 = some o ∧ o.data = .func fd := ⟨_, _, rfl, rfl⟩
theorem body_storage_class {F : FC} {c : Cx} {X : XP} {m : Loc} {H : AHeap} {v0 : AV} {Q : AV → AHeap → Prop} (ok : FOk F 1)
    (h : ∀ c' : Cx, c'.w = c.w → WSs (FG (scopeAt 11) 1) c' (bodyAt 11) (retQ Q) noX [(Str.ofString "v", some v0)] H) : WCall F c (.ref 93) [v0] Q X m H :=
  WCall_def (ls := []) (fn_storage_class _) ok.K.symm ok.prog.symm ok.ht rfl (by decide +kernel) (by decide +kernel) (by decide +kernel) h
theorem fn_put_varint (P : Params) : Fn (FG (scopeAt 18) 1) 101 [Str.ofString "n"] (bodyAt 18) P :=
  ⟨⟨_, _, rfl, rfl, by kernel_rfl, rfl, rfl, rfl, by kernel_rfl, by kernel_rfl, bind1 fun a0 => by kernel_rfl⟩, by kernel_rfl, by kernel_rfl, by kernel_rfl⟩
theorem g_put_varint (P : Params) : nsIn (KF P) mainGlobals (Str.ofString "put_varint") = some (some (.ref 101)) := rfl
theorem o_put_varint (P : Params) : ∃ o fd, (KF P).lookup 101 = some o ∧ o.data = .func fd := ⟨_, _, rfl, rfl⟩
theorem body_put_varint {F : FC} {c : Cx} {X : XP} {m : Loc} {H : AHeap} {v0 : AV} {Q : AV → AHeap → Prop} (ok : FOk F 1)
    (h : ∀ c' : Cx, c'.w = c.w → WSs (FG (scopeAt 18) 1) c' (bodyAt 18) (retQ Q) noX [(Str.ofString "n", some v0), (Str.ofString "rest", none), (Str.ofString "found", none), (Str.ofString "turn", none)] H) : WCall F c (.ref 101) [v0] Q X m H :=
  WCall_def (ls := [Str.ofString "rest", Str.ofString "found", Str.ofString "turn"]) (fn_put_varint _) ok.K.symm ok.prog.symm ok.ht rfl (by decide +kernel) (by decide +kernel) (by decide +kernel) h
theorem fn_get_varint (P : Params) : Fn (FG (scopeAt 19) 1) 108 [Str.ofString "octets", Str.ofString "at"] (bodyAt 19) P :=
  ⟨⟨_, _, rfl, rfl, by kernel_rfl, rfl, rfl, rfl, by kernel_rfl, by kernel_rfl, bind2 fun a0 a1 => by kernel_rfl⟩, by kernel_rfl, by kernel_rfl, by kernel_rfl⟩
theorem g_get_varint (P : Params) : nsIn (KF P) mainGlobals (Str.ofString "get_varint") = some (some (.ref 108)) := rfl
theorem o_get_varint (P : Params) : ∃ o fd, (KF P).lookup 108 = some o ∧ o.data = .func fd := ⟨_, _, rfl, rfl⟩
theorem body_get_varint {F : FC} {c : Cx} {X : XP} {m : Loc} {H : AHeap} {v0 v1 : AV} {Q : AV → AHeap → Prop} (ok : FOk F 1)
    (h : ∀ c' : Cx, c'.w = c.w → WSs (FG (scopeAt 19) 1) c' (bodyAt 19) (retQ Q) noX [(Str.ofString "octets", some v0), (Str.ofString "at", some v1), (Str.ofString "number", none), (Str.ofString "turn", none), (Str.ofString "octet", none)] H) : WCall F c (.ref 108) [v0, v1] Q X m H :=
  WCall_def (ls := [Str.ofString "number", Str.ofString "turn", Str.ofString "octet"]) (fn_get_varint _) ok.K.symm ok.prog.symm ok.ht rfl (by decide +kernel) (by decide +kernel) (by decide +kernel) h
theorem fn_signed (P : Params) : Fn (FG (scopeAt 20) 1) 115 [Str.ofString "n"] (bodyAt 20) P :=
  ⟨⟨_, _, rfl, rfl, by kernel_rfl, rfl, rfl, rfl, by kernel_rfl, by kernel_rfl, bind1 fun a0 => by kernel_rfl⟩, by kernel_rfl, by kernel_rfl, by kernel_rfl⟩
theorem g_signed (P : Params) : nsIn (KF P) mainGlobals (Str.ofString "signed") = some (some (.ref 115)) := rfl
theorem o_signed (P : Params) : ∃ o fd, (KF P).lookup 115 = some o ∧ o.data = .func fd := ⟨_, _, rfl, rfl⟩
theorem body_signed {F : FC} {c : Cx} {X : XP} {m : Loc} {H : AHeap} {v0 : AV} {Q : AV → AHeap → Prop} (ok : FOk F 1)
    (h : ∀ c' : Cx, c'.w = c.w → WSs (FG (scopeAt 20) 1) c' (bodyAt 20) (retQ Q) noX [(Str.ofString "n", some v0)] H) : WCall F c (.ref 115) [v0] Q X m H :=
  WCall_def (ls := []) (fn_signed _) ok.K.symm ok.prog.symm ok.ht rfl (by decide +kernel) (by decide +kernel) (by decide +kernel) h
theorem fn_put_fixed (P : Params) : Fn (FG (scopeAt 21) 1) 122 [Str.ofString "n", Str.ofString "size"] (bodyAt 21) P :=
  ⟨⟨_, _, rfl, rfl, by kernel_rfl, rfl, rfl, rfl, by kernel_rfl, by kernel_rfl, bind2 fun a0 a1 => by kernel_rfl⟩, by kernel_rfl, by kernel_rfl, by kernel_rfl⟩
theorem g_put_fixed (P : Params) : nsIn (KF P) mainGlobals (Str.ofString "put_fixed") = some (some (.ref 122)) := rfl
theorem o_put_fixed (P : Params) : ∃ o fd, (KF P).lookup 122 = some o ∧ o.data = .func fd := ⟨_, _, rfl, rfl⟩
theorem body_put_fixed {F : FC} {c : Cx} {X : XP} {m : Loc} {H : AHeap} {v0 v1 : AV} {Q : AV → AHeap → Prop} (ok : FOk F 1)
    (h : ∀ c' : Cx, c'.w = c.w → WSs (FG (scopeAt 21) 1) c' (bodyAt 21) (retQ Q) noX [(Str.ofString "n", some v0), (Str.ofString "size", some v1), (Str.ofString "rest", none), (Str.ofString "found", none), (Str.ofString "turn", none)] H) : WCall F c (.ref 122) [v0, v1] Q X m H :=
  WCall_def (ls := [Str.ofString "rest", Str.ofString "found", Str.ofString "turn"]) (fn_put_fixed _) ok.K.symm ok.prog.symm ok.ht rfl (by decide +kernel) (by decide +kernel) (by decide +kernel) h
theorem fn_get_fixed (P : Params) : Fn (FG (scopeAt 22) 1) 129 [Str.ofString "octets", Str.ofString "at", Str.ofString "size"] (bodyAt 22) P :=
  ⟨⟨_, _, rfl, rfl, by kernel_rfl, rfl, rfl, rfl, by kernel_rfl, by kernel_rfl, bind3 fun a0 a1 a2 => by kernel_rfl⟩, by kernel_rfl, by kernel_rfl, by kernel_rfl⟩
theorem g_get_fixed (P : Params) : nsIn (KF P) mainGlobals (Str.ofString "get_fixed") = some (some (.ref 129)) := rfl
theorem o_get_fixed (P : Params) : ∃ o fd, (KF P).lookup 129 = some o ∧ o.data = .func fd := ⟨_, _, rfl, rfl⟩
theorem body_get_fixed {F : FC} {c : Cx} {X : XP} {m : Loc} {H : AHeap} {v0 v1 v2 : AV} {Q : AV → AHeap → Prop} (ok : FOk F 1)
    (h : ∀ c' : Cx, c'.w = c.w → WSs (FG (scopeAt 22) 1) c' (bodyAt 22) (retQ Q) noX [(Str.ofString "octets", some v0), (Str.ofString "at", some v1), (Str.ofString "size", some v2), (Str.ofString "number", none), (Str.ofString "place", none)] H) : WCall F c (.ref 129) [v0, v1, v2] Q X m H :=
  WCall_def (ls := [Str.ofString "number", Str.ofString "place"]) (fn_get_fixed _) ok.K.symm ok.prog.symm ok.ht rfl (by decide +kernel) (by decide +kernel) (by decide +kernel) h
theorem fn_number_type (P : Params) : Fn (FG (scopeAt 23) 1) 136 [Str.ofString "n"] (bodyAt 23) P :=
  ⟨⟨_, _, rfl, rfl, by kernel_rfl, rfl, rfl, rfl, by kernel_rfl, by kernel_rfl, bind1 fun a0 => by kernel_rfl⟩, by kernel_rfl, by kernel_rfl, by kernel_rfl⟩
theorem g_number_type (P : Params) : nsIn (KF P) mainGlobals (Str.ofString "number_type") = some (some (.ref 136)) := rfl
theorem o_number_type (P : Params) : ∃ o fd, (KF P).lookup 136 = some o ∧ o.data = .func fd := ⟨_, _, rfl, rfl⟩
theorem body_number_type {F : FC} {c : Cx} {X : XP} {m : Loc} {H : AHeap} {v0 : AV} {Q : AV → AHeap → Prop} (ok : FOk F 1)
    (h : ∀ c' : Cx, c'.w = c.w → WSs (FG (scopeAt 23) 1) c' (bodyAt 23) (retQ Q) noX [(Str.ofString "n", some v0), (Str.ofString "kind", none), (Str.ofString "half", none)] H) : WCall F c (.ref 136) [v0] Q X m H :=
  WCall_def (ls := [Str.ofString "kind", Str.ofString "half"]) (fn_number_type _) ok.K.symm ok.prog.symm ok.ht rfl (by decide +kernel) (by decide +kernel) (by decide +kernel) h
theorem fn_serial_type (P : Params) : Fn (FG (scopeAt 24) 2) 143 [Str.ofString "v"] (bodyAt 24) P :=
  ⟨⟨_, _, rfl, rfl, by kernel_rfl, rfl, rfl, rfl, by kernel_rfl, by kernel_rfl, bind1 fun a0 => by kernel_rfl⟩, by kernel_rfl, by kernel_rfl, by kernel_rfl⟩
theorem g_serial_type (P : Params) : nsIn (KF P) mainGlobals (Str.ofString "serial_type") = some (some (.ref 143)) := rfl
theorem o_serial_type (P : Params) : ∃ o fd, (KF P).lookup 143 = some o ∧ o.data = .func fd := ⟨_, _, rfl, rfl⟩
theorem body_serial_type {F : FC} {c : Cx} {X : XP} {m : Loc} {H : AHeap} {v0 : AV} {Q : AV → AHeap → Prop} (ok : FOk F 2)
    (h : ∀ c' : Cx, c'.w = c.w → WSs (FG (scopeAt 24) 2) c' (bodyAt 24) (retQ Q) noX [(Str.ofString "v", some v0), (Str.ofString "kind", none)] H) : WCall F c (.ref 143) [v0] Q X m H :=
  WCall_def (ls := [Str.ofString "kind"]) (fn_serial_type _) ok.K.symm ok.prog.symm ok.ht rfl (by decide +kernel) (by decide +kernel) (by decide +kernel) h
theorem fn_serial_size (P : Params) : Fn (FG (scopeAt 25) 1) 150 [Str.ofString "t"] (bodyAt 25) P :=
  ⟨⟨_, _, rfl, rfl, by kernel_rfl, rfl, rfl, rfl, by kernel_rfl, by kernel_rfl, bind1 fun a0 => by kernel_rfl⟩, by kernel_rfl, by kernel_rfl, by kernel_rfl⟩
theorem g_serial_size (P : Params) : nsIn (KF P) mainGlobals (Str.ofString "serial_size") = some (some (.ref 150)) := rfl
theorem o_serial_size (P : Params) : ∃ o fd, (KF P).lookup 150 = some o ∧ o.data = .func fd := ⟨_, _, rfl, rfl⟩
theorem body_serial_size {F : FC} {c : Cx} {X : XP} {m : Loc} {H : AHeap} {v0 : AV} {Q : AV → AHeap → Prop} (ok : FOk F 1)
    (h : ∀ c' : Cx, c'.w = c.w → WSs (FG (scopeAt 25) 1) c' (bodyAt 25) (retQ Q) noX [(Str.ofString "t", some v0)] H) : WCall F c (.ref 150) [v0] Q X m H :=
  WCall_def (ls := []) (fn_serial_size _) ok.K.symm ok.prog.symm ok.ht rfl (by decide +kernel) (by decide +kernel) (by decide +kernel) h
theorem fn_body_of (P : Params) : Fn (FG (scopeAt 26) 2) 157 [Str.ofString "v", Str.ofString "kind"] (bodyAt 26) P :=
  ⟨⟨_, _, rfl, rfl, by kernel_rfl, rfl, rfl, rfl, by kernel_rfl, by kernel_rfl, bind2 fun a0 a1 => by kernel_rfl⟩, by kernel_rfl, by kernel_rfl, by kernel_rfl⟩
theorem g_body_of (P : Params) : nsIn (KF P) mainGlobals (Str.ofString "body_of") = some (some (.ref 157)) := rfl
theorem o_body_of (P : Params) : ∃ o fd, (KF P).lookup 157 = some o ∧ o.data = .func fd := ⟨_, _, rfl, rfl⟩
theorem body_body_of {F : FC} {c : Cx} {X : XP} {m : Loc} {H : AHeap} {v0 v1 : AV} {Q : AV → AHeap → Prop} (ok : FOk F 2)
    (h : ∀ c' : Cx, c'.w = c.w → WSs (FG (scopeAt 26) 2) c' (bodyAt 26) (retQ Q) noX [(Str.ofString "v", some v0), (Str.ofString "kind", some v1)] H) : WCall F c (.ref 157) [v0, v1] Q X m H :=
  WCall_def (ls := []) (fn_body_of _) ok.K.symm ok.prog.symm ok.ht rfl (by decide +kernel) (by decide +kernel) (by decide +kernel) h
theorem fn_value_of (P : Params) : Fn (FG (scopeAt 27) 3) 164 [Str.ofString "octets", Str.ofString "at", Str.ofString "kind"] (bodyAt 27) P :=
  ⟨⟨_, _, rfl, rfl, by kernel_rfl, rfl, rfl, rfl, by kernel_rfl, by kernel_rfl, bind3 fun a0 a1 a2 => by kernel_rfl⟩, by kernel_rfl, by kernel_rfl, by kernel_rfl⟩
theorem g_value_of (P : Params) : nsIn (KF P) mainGlobals (Str.ofString "value_of") = some (some (.ref 164)) := rfl
theorem o_value_of (P : Params) : ∃ o fd, (KF P).lookup 164 = some o ∧ o.data = .func fd := ⟨_, _, rfl, rfl⟩
theorem body_value_of {F : FC} {c : Cx} {X : XP} {m : Loc} {H : AHeap} {v0 v1 v2 : AV} {Q : AV → AHeap → Prop} (ok : FOk F 3)
    (h : ∀ c' : Cx, c'.w = c.w → WSs (FG (scopeAt 27) 3) c' (bodyAt 27) (retQ Q) noX [(Str.ofString "octets", some v0), (Str.ofString "at", some v1), (Str.ofString "kind", some v2), (Str.ofString "size", none), (Str.ofString "body", none)] H) : WCall F c (.ref 164) [v0, v1, v2] Q X m H :=
  WCall_def (ls := [Str.ofString "size", Str.ofString "body"]) (fn_value_of _) ok.K.symm ok.prog.symm ok.ht rfl (by decide +kernel) (by decide +kernel) (by decide +kernel) h
theorem fn_head_size (P : Params) : Fn (FG (scopeAt 28) 2) 171 [Str.ofString "many"] (bodyAt 28) P :=
  ⟨⟨_, _, rfl, rfl, by kernel_rfl, rfl, rfl, rfl, by kernel_rfl, by kernel_rfl, bind1 fun a0 => by kernel_rfl⟩, by kernel_rfl, by kernel_rfl, by kernel_rfl⟩
theorem g_head_size (P : Params) : nsIn (KF P) mainGlobals (Str.ofString "head_size") = some (some (.ref 171)) := rfl
theorem o_head_size (P : Params) : ∃ o fd, (KF P).lookup 171 = some o ∧ o.data = .func fd := ⟨_, _, rfl, rfl⟩
theorem body_head_size {F : FC} {c : Cx} {X : XP} {m : Loc} {H : AHeap} {v0 : AV} {Q : AV → AHeap → Prop} (ok : FOk F 2)
    (h : ∀ c' : Cx, c'.w = c.w → WSs (FG (scopeAt 28) 2) c' (bodyAt 28) (retQ Q) noX [(Str.ofString "many", some v0), (Str.ofString "own", none)] H) : WCall F c (.ref 171) [v0] Q X m H :=
  WCall_def (ls := [Str.ofString "own"]) (fn_head_size _) ok.K.symm ok.prog.symm ok.ht rfl (by decide +kernel) (by decide +kernel) (by decide +kernel) h
theorem fn_encode_record (P : Params) : Fn (FG (scopeAt 29) 3) 178 [Str.ofString "values"] (bodyAt 29) P :=
  ⟨⟨_, _, rfl, rfl, by kernel_rfl, rfl, rfl, rfl, by kernel_rfl, by kernel_rfl, bind1 fun a0 => by kernel_rfl⟩, by kernel_rfl, by kernel_rfl, by kernel_rfl⟩
theorem g_encode_record (P : Params) : nsIn (KF P) mainGlobals (Str.ofString "encode_record") = some (some (.ref 178)) := rfl
theorem o_encode_record (P : Params) : ∃ o fd, (KF P).lookup 178 = some o ∧ o.data = .func fd := ⟨_, _, rfl, rfl⟩
theorem body_encode_record {F : FC} {c : Cx} {X : XP} {m : Loc} {H : AHeap} {v0 : AV} {Q : AV → AHeap → Prop} (ok : FOk F 3)
    (h : ∀ c' : Cx, c'.w = c.w → WSs (FG (scopeAt 29) 3) c' (bodyAt 29) (retQ Q) noX [(Str.ofString "values", some v0), (Str.ofString "types", none), (Str.ofString "bodies", none), (Str.ofString "v", none), (Str.ofString "kind", none)] H) : WCall F c (.ref 178) [v0] Q X m H :=
  WCall_def (ls := [Str.ofString "types", Str.ofString "bodies", Str.ofString "v", Str.ofString "kind"]) (fn_encode_record _) ok.K.symm ok.prog.symm ok.ht rfl (by decide +kernel) (by decide +kernel) (by decide +kernel) h
theorem fn_head_of (P : Params) : Fn (FG (scopeAt 30) 2) 185 [Str.ofString "octets"] (bodyAt 30) P :=
  ⟨⟨_, _, rfl, rfl, by kernel_rfl, rfl, rfl, rfl, by kernel_rfl, by kernel_rfl, bind1 fun a0 => by kernel_rfl⟩, by kernel_rfl, by kernel_rfl, by kernel_rfl⟩
theorem g_head_of (P : Params) : nsIn (KF P) mainGlobals (Str.ofString "head_of") = some (some (.ref 185)) := rfl
theorem o_head_of (P : Params) : ∃ o fd, (KF P).lookup 185 = some o ∧ o.data = .func fd := ⟨_, _, rfl, rfl⟩
theorem body_head_of {F : FC} {c : Cx} {X : XP} {m : Loc} {H : AHeap} {v0 : AV} {Q : AV → AHeap → Prop} (ok : FOk F 2)
    (h : ∀ c' : Cx, c'.w = c.w → WSs (FG (scopeAt 30) 2) c' (bodyAt 30) (retQ Q) noX [(Str.ofString "octets", some v0), (Str.ofString "end", none), (Str.ofString "at", none), (Str.ofString "types", none), (Str.ofString "kind", none)] H) : WCall F c (.ref 185) [v0] Q X m H :=
  WCall_def (ls := [Str.ofString "end", Str.ofString "at", Str.ofString "types", Str.ofString "kind"]) (fn_head_of _) ok.K.symm ok.prog.symm ok.ht rfl (by decide +kernel) (by decide +kernel) (by decide +kernel) h
theorem fn_decode_record (P : Params) : Fn (FG (scopeAt 31) 4) 192 [Str.ofString "octets"] (bodyAt 31) P :=
  ⟨⟨_, _, rfl, rfl, by kernel_rfl, rfl, rfl, rfl, by kernel_rfl, by kernel_rfl, bind1 fun a0 => by kernel_rfl⟩, by kernel_rfl, by kernel_rfl, by kernel_rfl⟩
theorem g_decode_record (P : Params) : nsIn (KF P) mainGlobals (Str.ofString "decode_record") = some (some (.ref 192)) := rfl
theorem o_decode_record (P : Params) : ∃ o fd, (KF P).lookup 192 = some o ∧ o.data = .func fd := ⟨_, _, rfl, rfl⟩
theorem body_decode_record {F : FC} {c : Cx} {X : XP} {m : Loc} {H : AHeap} {v0 : AV} {Q : AV → AHeap → Prop} (ok : FOk F 4)
    (h : ∀ c' : Cx, c'.w = c.w → WSs (FG (scopeAt 31) 4) c' (bodyAt 31) (retQ Q) noX [(Str.ofString "octets", some v0), (Str.ofString "types", none), (Str.ofString "at", none), (Str.ofString "values", none), (Str.ofString "kind", none)] H) : WCall F c (.ref 192) [v0] Q X m H :=
  WCall_def (ls := [Str.ofString "types", Str.ofString "at", Str.ofString "values", Str.ofString "kind"]) (fn_decode_record _) ok.K.symm ok.prog.symm ok.ht rfl (by decide +kernel) (by decide +kernel) (by decide +kernel) h
theorem fn_record_column (P : Params) : Fn (FG (scopeAt 32) 4) 199 [Str.ofString "octets", Str.ofString "i"] (bodyAt 32) P :=
  ⟨⟨_, _, rfl, rfl, by kernel_rfl, rfl, rfl, rfl, by kernel_rfl, by kernel_rfl, bind2 fun a0 a1 => by kernel_rfl⟩, by kernel_rfl, by kernel_rfl, by kernel_rfl⟩
theorem g_record_column (P : Params) : nsIn (KF P) mainGlobals (Str.ofString "record_column") = some (some (.ref 199)) := rfl
theorem o_record_column (P : Params) : ∃ o fd, (KF P).lookup 199 = some o ∧ o.data = .func fd := ⟨_, _, rfl, rfl⟩
theorem body_record_column {F : FC} {c : Cx} {X : XP} {m : Loc} {H : AHeap} {v0 v1 : AV} {Q : AV → AHeap → Prop} (ok : FOk F 4)
    (h : ∀ c' : Cx, c'.w = c.w → WSs (FG (scopeAt 32) 4) c' (bodyAt 32) (retQ Q) noX [(Str.ofString "octets", some v0), (Str.ofString "i", some v1), (Str.ofString "end", none), (Str.ofString "place", none), (Str.ofString "at", none), (Str.ofString "column", none), (Str.ofString "kind", none)] H) : WCall F c (.ref 199) [v0, v1] Q X m H :=
  WCall_def (ls := [Str.ofString "end", Str.ofString "place", Str.ofString "at", Str.ofString "column", Str.ofString "kind"]) (fn_record_column _) ok.K.symm ok.prog.symm ok.ht rfl (by decide +kernel) (by decide +kernel) (by decide +kernel) h
theorem fn_law_pool (P : Params) : Fn (FG (scopeAt 34) 1) 206 [Str.ofString "script", Str.ofString "k"] (bodyAt 34) P :=
  ⟨⟨_, _, rfl, rfl, by kernel_rfl, rfl, rfl, rfl, by kernel_rfl, by kernel_rfl, bind2 fun a0 a1 => by kernel_rfl⟩, by kernel_rfl, by kernel_rfl, by kernel_rfl⟩
theorem g_law_pool (P : Params) : nsIn (KF P) mainGlobals (Str.ofString "_law_pool") = some (some (.ref 206)) := rfl
theorem o_law_pool (P : Params) : ∃ o fd, (KF P).lookup 206 = some o ∧ o.data = .func fd := ⟨_, _, rfl, rfl⟩
theorem body_law_pool {F : FC} {c : Cx} {X : XP} {m : Loc} {H : AHeap} {v0 v1 : AV} {Q : AV → AHeap → Prop} (ok : FOk F 1)
    (h : ∀ c' : Cx, c'.w = c.w → WSs (FG (scopeAt 34) 1) c' (bodyAt 34) (retQ Q) noX [(Str.ofString "script", some v0), (Str.ofString "k", some v1), (Str.ofString "cell", none), (Str.ofString "big", none), (Str.ofString "mixed", none)] H) : WCall F c (.ref 206) [v0, v1] Q X m H :=
  WCall_def (ls := [Str.ofString "cell", Str.ofString "big", Str.ofString "mixed"]) (fn_law_pool _) ok.K.symm ok.prog.symm ok.ht rfl (by decide +kernel) (by decide +kernel) (by decide +kernel) h
theorem fn_law_take (P : Params) : Fn (FG (scopeAt 35) 1) 213 [Str.ofString "source", Str.ofString "top"] (bodyAt 35) P :=
  ⟨⟨_, _, rfl, rfl, by kernel_rfl, rfl, rfl, rfl, by kernel_rfl, by kernel_rfl, bind2 fun a0 a1 => by kernel_rfl⟩, by kernel_rfl, by kernel_rfl, by kernel_rfl⟩
theorem g_law_take (P : Params) : nsIn (KF P) mainGlobals (Str.ofString "_law_take") = some (some (.ref 213)) := rfl
theorem o_law_take (P : Params) : ∃ o fd, (KF P).lookup 213 = some o ∧ o.data = .func fd := ⟨_, _, rfl, rfl⟩
theorem body_law_take {F : FC} {c : Cx} {X : XP} {m : Loc} {H : AHeap} {v0 v1 : AV} {Q : AV → AHeap → Prop} (ok : FOk F 1)
    (h : ∀ c' : Cx, c'.w = c.w → WSs (FG (scopeAt 35) 1) c' (bodyAt 35) (retQ Q) noX [(Str.ofString "source", some v0), (Str.ofString "top", some v1), (Str.ofString "drawn", none)] H) : WCall F c (.ref 213) [v0, v1] Q X m H :=
  WCall_def (ls := [Str.ofString "drawn"]) (fn_law_take _) ok.K.symm ok.prog.symm ok.ht rfl (by decide +kernel) (by decide +kernel) (by decide +kernel) h
theorem fn_law_one (P : Params) : Fn (FG (scopeAt 36) 2) 220 [Str.ofString "source", Str.ofString "things"] (bodyAt 36) P :=
  ⟨⟨_, _, rfl, rfl, by kernel_rfl, rfl, rfl, rfl, by kernel_rfl, by kernel_rfl, bind2 fun a0 a1 => by kernel_rfl⟩, by kernel_rfl, by kernel_rfl, by kernel_rfl⟩
theorem g_law_one (P : Params) : nsIn (KF P) mainGlobals (Str.ofString "_law_one") = some (some (.ref 220)) := rfl
theorem o_law_one (P : Params) : ∃ o fd, (KF P).lookup 220 = some o ∧ o.data = .func fd := ⟨_, _, rfl, rfl⟩
theorem body_law_one {F : FC} {c : Cx} {X : XP} {m : Loc} {H : AHeap} {v0 v1 : AV} {Q : AV → AHeap → Prop} (ok : FOk F 2)
    (h : ∀ c' : Cx, c'.w = c.w → WSs (FG (scopeAt 36) 2) c' (bodyAt 36) (retQ Q) noX [(Str.ofString "source", some v0), (Str.ofString "things", some v1)] H) : WCall F c (.ref 220) [v0, v1] Q X m H :=
  WCall_def (ls := []) (fn_law_one _) ok.K.symm ok.prog.symm ok.ht rfl (by decide +kernel) (by decide +kernel) (by decide +kernel) h
theorem fn_law_varint (P : Params) : Fn (FG (scopeAt 37) 1) 227 [Str.ofString "number"] (bodyAt 37) P :=
  ⟨⟨_, _, rfl, rfl, by kernel_rfl, rfl, rfl, rfl, by kernel_rfl, by kernel_rfl, bind1 fun a0 => by kernel_rfl⟩, by kernel_rfl, by kernel_rfl, by kernel_rfl⟩
theorem g_law_varint (P : Params) : nsIn (KF P) mainGlobals (Str.ofString "_law_varint") = some (some (.ref 227)) := rfl
theorem o_law_varint (P : Params) : ∃ o fd, (KF P).lookup 227 = some o ∧ o.data = .func fd := ⟨_, _, rfl, rfl⟩
theorem body_law_varint {F : FC} {c : Cx} {X : XP} {m : Loc} {H : AHeap} {v0 : AV} {Q : AV → AHeap → Prop} (ok : FOk F 1)
    (h : ∀ c' : Cx, c'.w = c.w → WSs (FG (scopeAt 37) 1) c' (bodyAt 37) (retQ Q) noX [(Str.ofString "number", some v0), (Str.ofString "found", none), (Str.ofString "left", none), (Str.ofString "turn", none)] H) : WCall F c (.ref 227) [v0] Q X m H :=
  WCall_def (ls := [Str.ofString "found", Str.ofString "left", Str.ofString "turn"]) (fn_law_varint _) ok.K.symm ok.prog.symm ok.ht rfl (by decide +kernel) (by decide +kernel) (by decide +kernel) h
theorem fn_law_body (P : Params) : Fn (FG (scopeAt 38) 1) 234 [Str.ofString "value"] (bodyAt 38) P :=
  ⟨⟨_, _, rfl, rfl, by kernel_rfl, rfl, rfl, rfl, by kernel_rfl, by kernel_rfl, bind1 fun a0 => by kernel_rfl⟩, by kernel_rfl, by kernel_rfl, by kernel_rfl⟩
theorem g_law_body (P : Params) : nsIn (KF P) mainGlobals (Str.ofString "_law_body") = some (some (.ref 234)) := rfl
theorem o_law_body (P : Params) : ∃ o fd, (KF P).lookup 234 = some o ∧ o.data = .func fd := ⟨_, _, rfl, rfl⟩
theorem body_law_body {F : FC} {c : Cx} {X : XP} {m : Loc} {H : AHeap} {v0 : AV} {Q : AV → AHeap → Prop} (ok : FOk F 1)
    (h : ∀ c' : Cx, c'.w = c.w → WSs (FG (scopeAt 38) 1) c' (bodyAt 38) (retQ Q) noX [(Str.ofString "value", some v0), (Str.ofString "octets", none), (Str.ofString "kind", none), (Str.ofString "size", none), (Str.ofString "left", none), (Str.ofString "turn", none)] H) : WCall F c (.ref 234) [v0] Q X m H :=
  WCall_def (ls := [Str.ofString "octets", Str.ofString "kind", Str.ofString "size", Str.ofString "left", Str.ofString "turn"]) (fn_law_body _) ok.K.symm ok.prog.symm ok.ht rfl (by decide +kernel) (by decide +kernel) (by decide +kernel) h
theorem fn_law_record (P : Params) : Fn (FG (scopeAt 39) 2) 241 [Str.ofString "values"] (bodyAt 39) P :=
  ⟨⟨_, _, rfl, rfl, by kernel_rfl, rfl, rfl, rfl, by kernel_rfl, by kernel_rfl, bind1 fun a0 => by kernel_rfl⟩, by kernel_rfl, by kernel_rfl, by kernel_rfl⟩
theorem g_law_record (P : Params) : nsIn (KF P) mainGlobals (Str.ofString "_law_record") = some (some (.ref 241)) := rfl
theorem o_law_record (P : Params) : ∃ o fd, (KF P).lookup 241 = some o ∧ o.data = .func fd := ⟨_, _, rfl, rfl⟩
theorem body_law_record {F : FC} {c : Cx} {X : XP} {m : Loc} {H : AHeap} {v0 : AV} {Q : AV → AHeap → Prop} (ok : FOk F 2)
    (h : ∀ c' : Cx, c'.w = c.w → WSs (FG (scopeAt 39) 2) c' (bodyAt 39) (retQ Q) noX [(Str.ofString "values", some v0), (Str.ofString "kinds", none), (Str.ofString "bodies", none), (Str.ofString "value", none), (Str.ofString "kind", none), (Str.ofString "octets", none), (Str.ofString "size", none)] H) : WCall F c (.ref 241) [v0] Q X m H :=
  WCall_def (ls := [Str.ofString "kinds", Str.ofString "bodies", Str.ofString "value", Str.ofString "kind", Str.ofString "octets", Str.ofString "size"]) (fn_law_record _) ok.K.symm ok.prog.symm ok.ht rfl (by decide +kernel) (by decide +kernel) (by decide +kernel) h
theorem fn_law_number (P : Params) : Fn (FG (scopeAt 40) 3) 248 [Str.ofString "source"] (bodyAt 40) P :=
  ⟨⟨_, _, rfl, rfl, by kernel_rfl, rfl, rfl, rfl, by kernel_rfl, by kernel_rfl, bind1 fun a0 => by kernel_rfl⟩, by kernel_rfl, by kernel_rfl, by kernel_rfl⟩
theorem g_law_number (P : Params) : nsIn (KF P) mainGlobals (Str.ofString "_law_number") = some (some (.ref 248)) := rfl
theorem o_law_number (P : Params) : ∃ o fd, (KF P).lookup 248 = some o ∧ o.data = .func fd := ⟨_, _, rfl, rfl⟩
theorem body_law_number {F : FC} {c : Cx} {X : XP} {m : Loc} {H : AHeap} {v0 : AV} {Q : AV → AHeap → Prop} (ok : FOk F 3)
    (h : ∀ c' : Cx, c'.w = c.w → WSs (FG (scopeAt 40) 3) c' (bodyAt 40) (retQ Q) noX [(Str.ofString "source", some v0), (Str.ofString "power", none), (Str.ofString "near", none)] H) : WCall F c (.ref 248) [v0] Q X m H :=
  WCall_def (ls := [Str.ofString "power", Str.ofString "near"]) (fn_law_number _) ok.K.symm ok.prog.symm ok.ht rfl (by decide +kernel) (by decide +kernel) (by decide +kernel) h
theorem fn_law_value (P : Params) : Fn (FG (scopeAt 41) 4) 253 [Str.ofString "source"] (bodyAt 41) P :=
  ⟨⟨_, _, rfl, rfl, by kernel_rfl, rfl, rfl, rfl, by kernel_rfl, by kernel_rfl, bind1 fun a0 => by kernel_rfl⟩, by kernel_rfl, by kernel_rfl, by kernel_rfl⟩
theorem g_law_value (P : Params) : nsIn (KF P) mainGlobals (Str.ofString "_law_value") = some (some (.ref 253)) := rfl
theorem o_law_value (P : Params) : ∃ o fd, (KF P).lookup 253 = some o ∧ o.data = .func fd := ⟨_, _, rfl, rfl⟩
theorem fn_law_varints_right (P : Params) : Fn (FG (scopeAt 42) 4) 260 [Str.ofString "source"] (bodyAt 42) P :=
  ⟨⟨_, _, rfl, rfl, by kernel_rfl, rfl, rfl, rfl, by kernel_rfl, by kernel_rfl, bind1 fun a0 => by kernel_rfl⟩, by kernel_rfl, by kernel_rfl, by kernel_rfl⟩
theorem g_law_varints_right (P : Params) : nsIn (KF P) mainGlobals (Str.ofString "_law_varints_right") = some (some (.ref 260)) := rfl
theorem o_law_varints_right (P : Params) : ∃ o fd, (KF P).lookup 260 = some o ∧ o.data = .func fd := ⟨_, _, rfl, rfl⟩
theorem body_law_varints_right {F : FC} {c : Cx} {X : XP} {m : Loc} {H : AHeap} {v0 : AV} {Q : AV → AHeap → Prop} (ok : FOk F 4)
    (h : ∀ c' : Cx, c'.w = c.w → WSs (FG (scopeAt 42) 4) c' (bodyAt 42) (retQ Q) noX [(Str.ofString "source", some v0), (Str.ofString "octets", none), (Str.ofString "numbers", none), (Str.ofString "turn", none), (Str.ofString "number", none), (Str.ofString "row", none), (Str.ofString "at", none), (Str.ofString "told", none)] H) : WCall F c (.ref 260) [v0] Q X m H :=
  WCall_def (ls := [Str.ofString "octets", Str.ofString "numbers", Str.ofString "turn", Str.ofString "number", Str.ofString "row", Str.ofString "at", Str.ofString "told"]) (fn_law_varints_right _) ok.K.symm ok.prog.symm ok.ht rfl (by decide +kernel) (by decide +kernel) (by decide +kernel) h
theorem fn_law_alike (P : Params) : Fn (FG (scopeAt 43) 1) 267 [Str.ofString "one", Str.ofString "other"] (bodyAt 43) P :=
  ⟨⟨_, _, rfl, rfl, by kernel_rfl, rfl, rfl, rfl, by kernel_rfl, by kernel_rfl, bind2 fun a0 a1 => by kernel_rfl⟩, by kernel_rfl, by kernel_rfl, by kernel_rfl⟩
theorem g_law_alike (P : Params) : nsIn (KF P) mainGlobals (Str.ofString "_law_alike") = some (some (.ref 267)) := rfl
theorem o_law_alike (P : Params) : ∃ o fd, (KF P).lookup 267 = some o ∧ o.data = .func fd := ⟨_, _, rfl, rfl⟩
theorem body_law_alike {F : FC} {c : Cx} {X : XP} {m : Loc} {H : AHeap} {v0 v1 : AV} {Q : AV → AHeap → Prop} (ok : FOk F 1)
    (h : ∀ c' : Cx, c'.w = c.w → WSs (FG (scopeAt 43) 1) c' (bodyAt 43) (retQ Q) noX [(Str.ofString "one", some v0), (Str.ofString "other", some v1)] H) : WCall F c (.ref 267) [v0, v1] Q X m H :=
  WCall_def (ls := []) (fn_law_alike _) ok.K.symm ok.prog.symm ok.ht rfl (by decide +kernel) (by decide +kernel) (by decide +kernel) h
theorem fn_law_record_right (P : Params) : Fn (FG (scopeAt 44) 5) 274 [Str.ofString "values", Str.ofString "places"] (bodyAt 44) P :=
  ⟨⟨_, _, rfl, rfl, by kernel_rfl, rfl, rfl, rfl, by kernel_rfl, by kernel_rfl, bind2 fun a0 a1 => by kernel_rfl⟩, by kernel_rfl, by kernel_rfl, by kernel_rfl⟩
theorem g_law_record_right (P : Params) : nsIn (KF P) mainGlobals (Str.ofString "_law_record_right") = some (some (.ref 274)) := rfl
theorem o_law_record_right (P : Params) : ∃ o fd, (KF P).lookup 274 = some o ∧ o.data = .func fd := ⟨_, _, rfl, rfl⟩
theorem body_law_record_right {F : FC} {c : Cx} {X : XP} {m : Loc} {H : AHeap} {v0 v1 : AV} {Q : AV → AHeap → Prop} (ok : FOk F 5)
    (h : ∀ c' : Cx, c'.w = c.w → WSs (FG (scopeAt 44) 5) c' (bodyAt 44) (retQ Q) noX [(Str.ofString "values", some v0), (Str.ofString "places", some v1), (Str.ofString "due", none), (Str.ofString "told", none), (Str.ofString "at", none)] H) : WCall F c (.ref 274) [v0, v1] Q X m H :=
  WCall_def (ls := [Str.ofString "due", Str.ofString "told", Str.ofString "at"]) (fn_law_record_right _) ok.K.symm ok.prog.symm ok.ht rfl (by decide +kernel) (by decide +kernel) (by decide +kernel) h
theorem fn_law_types_right (P : Params) : Fn (FG (scopeAt 45) 3) 281 [Str.ofString "values"] (bodyAt 45) P :=
  ⟨⟨_, _, rfl, rfl, by kernel_rfl, rfl, rfl, rfl, by kernel_rfl, by kernel_rfl, bind1 fun a0 => by kernel_rfl⟩, by kernel_rfl, by kernel_rfl, by kernel_rfl⟩
theorem g_law_types_right (P : Params) : nsIn (KF P) mainGlobals (Str.ofString "_law_types_right") = some (some (.ref 281)) := rfl
theorem o_law_types_right (P : Params) : ∃ o fd, (KF P).lookup 281 = some o ∧ o.data = .func fd := ⟨_, _, rfl, rfl⟩
theorem body_law_types_right {F : FC} {c : Cx} {X : XP} {m : Loc} {H : AHeap} {v0 : AV} {Q : AV → AHeap → Prop} (ok : FOk F 3)
    (h : ∀ c' : Cx, c'.w = c.w → WSs (FG (scopeAt 45) 3) c' (bodyAt 45) (retQ Q) noX [(Str.ofString "values", some v0), (Str.ofString "value", none), (Str.ofString "kind", none), (Str.ofString "octets", none)] H) : WCall F c (.ref 281) [v0] Q X m H :=
  WCall_def (ls := [Str.ofString "value", Str.ofString "kind", Str.ofString "octets"]) (fn_law_types_right _) ok.K.symm ok.prog.symm ok.ht rfl (by decide +kernel) (by decide +kernel) (by decide +kernel) h
theorem fn_law_refused (P : Params) : Fn (FG (scopeAt 46) 5) 288 [Str.ofString "octets"] (bodyAt 46) P :=
  ⟨⟨_, _, rfl, rfl, by kernel_rfl, rfl, rfl, rfl, by kernel_rfl, by kernel_rfl, bind1 fun a0 => by kernel_rfl⟩, by kernel_rfl, by kernel_rfl, by kernel_rfl⟩
theorem g_law_refused (P : Params) : nsIn (KF P) mainGlobals (Str.ofString "_law_refused") = some (some (.ref 288)) := rfl
theorem o_law_refused (P : Params) : ∃ o fd, (KF P).lookup 288 = some o ∧ o.data = .func fd := ⟨_, _, rfl, rfl⟩
theorem body_law_refused {F : FC} {c : Cx} {X : XP} {m : Loc} {H : AHeap} {v0 : AV} {Q : AV → AHeap → Prop} (ok : FOk F 5)
    (h : ∀ c' : Cx, c'.w = c.w → WSs (FG (scopeAt 46) 5) c' (bodyAt 46) (retQ Q) noX [(Str.ofString "octets", some v0)] H) : WCall F c (.ref 288) [v0] Q X m H :=
  WCall_def (ls := []) (fn_law_refused _) ok.K.symm ok.prog.symm ok.ht rfl (by decide +kernel) (by decide +kernel) (by decide +kernel) h
theorem fn_law (P : Params) : Fn (FG (scopeAt 47) 6) 293 [Str.ofString "script"] (bodyAt 47) P :=
  ⟨⟨_, _, rfl, rfl, by kernel_rfl, rfl, rfl, rfl, by kernel_rfl, by kernel_rfl, bind1 fun a0 => by kernel_rfl⟩, by kernel_rfl, by kernel_rfl, by kernel_rfl⟩
theorem g_law (P : Params) : nsIn (KF P) mainGlobals (Str.ofString "law") = some (some (.ref 293)) := rfl
theorem o_law (P : Params) : ∃ o fd, (KF P).lookup 293 = some o ∧ o.data = .func fd := ⟨_, _, rfl, rfl⟩
theorem b_bytearray : bootBuiltins (Str.ofString "bytearray") = some (.type "bytearray") := by kernel_rfl
theorem n_bytearray (P : Params) : nsIn (KF P) mainGlobals (Str.ofString "bytearray") = some none := rfl
theorem b_ord : bootBuiltins (Str.ofString "ord") = some (.builtin "ord") := by kernel_rfl
theorem n_ord (P : Params) : nsIn (KF P) mainGlobals (Str.ofString "ord") = some none := rfl
theorem b_bytes : bootBuiltins (Str.ofString "bytes") = some (.type "bytes") := by kernel_rfl
theorem n_bytes (P : Params) : nsIn (KF P) mainGlobals (Str.ofString "bytes") = some none := rfl
theorem b_len : bootBuiltins (Str.ofString "len") = some (.builtin "len") := by kernel_rfl
theorem n_len (P : Params) : nsIn (KF P) mainGlobals (Str.ofString "len") = some none := rfl
theorem b_chr : bootBuiltins (Str.ofString "chr") = some (.builtin "chr") := by kernel_rfl
theorem n_chr (P : Params) : nsIn (KF P) mainGlobals (Str.ofString "chr") = some none := rfl
theorem b_isinstance : bootBuiltins (Str.ofString "isinstance") = some (.builtin "isinstance") := by kernel_rfl
theorem n_isinstance (P : Params) : nsIn (KF P) mainGlobals (Str.ofString "isinstance") = some none := rfl
theorem b_range : bootBuiltins (Str.ofString "range") = some (.type "range") := by kernel_rfl
theorem n_range (P : Params) : nsIn (KF P) mainGlobals (Str.ofString "range") = some none := rfl
theorem b_list : bootBuiltins (Str.ofString "list") = some (.type "list") := by kernel_rfl
theorem n_list (P : Params) : nsIn (KF P) mainGlobals (Str.ofString "list") = some none := rfl
theorem b_int : bootBuiltins (Str.ofString "int") = some (.type "int") := by kernel_rfl
theorem n_int (P : Params) : nsIn (KF P) mainGlobals (Str.ofString "int") = some none := rfl
theorem b_max : bootBuiltins (Str.ofString "max") = some (.builtin "max") := by kernel_rfl
theorem n_max (P : Params) : nsIn (KF P) mainGlobals (Str.ofString "max") = some none := rfl
theorem b_min : bootBuiltins (Str.ofString "min") = some (.builtin "min") := by kernel_rfl
theorem n_min (P : Params) : nsIn (KF P) mainGlobals (Str.ofString "min") = some none := rfl
theorem b_str : bootBuiltins (Str.ofString "str") = some (.type "str") := by kernel_rfl
theorem n_str (P : Params) : nsIn (KF P) mainGlobals (Str.ofString "str") = some none := rfl
theorem b_bool : bootBuiltins (Str.ofString "bool") = some (.type "bool") := by kernel_rfl
theorem n_bool (P : Params) : nsIn (KF P) mainGlobals (Str.ofString "bool") = some none := rfl
end Mine
end
section
open PySem PySem.W PyProof.Rows
set_option Elab.async false
set_option linter.unusedVariables false
set_option maxRecDepth 100000
namespace Mine

theorem gv_WORD (P : Params) : ∃ t, nsIn (KF P) mainGlobals (Str.ofString "WORD") = some (some (.int 18446744073709551616 t)) := ⟨_, rfl⟩
theorem gv_ZERO_TYPE (P : Params) : ∃ t, nsIn (KF P) mainGlobals (Str.ofString "ZERO_TYPE") = some (some (.int 8 t)) := ⟨_, rfl⟩
theorem gv_ONE_TYPE (P : Params) : ∃ t, nsIn (KF P) mainGlobals (Str.ofString "ONE_TYPE") = some (some (.int 9 t)) := ⟨_, rfl⟩
theorem gv_BLOB_TYPE (P : Params) : ∃ t, nsIn (KF P) mainGlobals (Str.ofString "BLOB_TYPE") = some (some (.int 12 t)) := ⟨_, rfl⟩
theorem gv_TEXT_TYPE (P : Params) : ∃ t, nsIn (KF P) mainGlobals (Str.ofString "TEXT_TYPE") = some (some (.int 13 t)) := ⟨_, rfl⟩
theorem gv_REPLACEMENT (P : Params) : ∃ t, nsIn (KF P) mainGlobals (Str.ofString "REPLACEMENT") = some (some (.str ⟨#[65533]⟩ t)) := ⟨_, rfl⟩
def sizesAt : Addr := 94
theorem gv_NUMBER_SIZES (P : Params) : nsIn (KF P) mainGlobals (Str.ofString "NUMBER_SIZES") = some (some (.ref sizesAt)) := rfl
end Mine
end
section
open PySem PySem.W PyProof.Rows
set_option maxRecDepth 100000
set_option maxHeartbeats 4000000
namespace Mine
local macro_rules | `(tactic| specialize "at") => `(tactic| with_reducible (repeat (first | exact At.here | apply At.there)))
local macro_rules | `(tactic| specialize "put") => `(tactic| with_reducible (repeat (first | exact Put.here | apply Put.there)))
local macro_rules | `(tactic| specialize "hl") => `(tactic| first
  | with_reducible first | exact AHeap.set_same _ _ _ | assumption
  | ((with_reducible refine' AHeap.look_ne ?ne ?r); (case ne => specialize "ne"); (case r => specialize "hl")))
local macro_rules | `(tactic| specialize "ne") => `(tactic| first
  | with_reducible assumption
  | ((with_reducible refine' AHeap.ne_of ?a ?b); (case a => with_reducible assumption); (case b => specialize "hl"))
  | ((with_reducible refine' Ne.symm (AHeap.ne_of ?a ?b)); (case a => with_reducible assumption); (case b => specialize "hl")))
local macro_rules | `(tactic| specialize "M") => `(tactic| first
  | ((with_reducible refine' meth_k (meth_append ?e) ?h); (case e => specialize "hl"))
  | ((with_reducible refine' meth_k (meth_reverse ?e) ?h); (case e => specialize "hl"))
  | ((with_reducible refine' meth_k (meth_barr_append ?e) ?h); (case e => specialize "hl"))
  | ((with_reducible refine' meth_k (meth_barr_extend ?e) ?h); (case e => specialize "hl"))
  | with_reducible refine' meth_k meth_join ?_)
local macro_rules | `(tactic| specialize "kk") => `(tactic| first | decide +kernel | kernel_rfl)
local macro_rules | `(tactic| specialize "S") => `(tactic| first
  | with_reducible first | refine' seq_next ?_ | refine' seq_ret ?_ | refine' loop_next ?_ | refine' loop_ret ?_ | refine' ret_ret ?_ | refine' ret_next ?_ | refine' none_k ?_ | refine' bool_k ?_ | refine' ift ?_ | refine' iff' ?_ | refine' WSs_cons ?_ | refine' WSs_nil ?_ | refine' WS_If ?_ | refine' WS_Return ?_ | refine' WS_Pass ?_
  | ((with_reducible refine' put_k ?hp ?h); (case hp => specialize "put"))
  | ((with_reducible refine' putq_k ?hp ?h); (case hp => specialize "put"))
  | ((with_reducible refine' asgN_k ?hp ?h); (case hp => specialize "put"))
  | ((with_reducible refine' new_k ?hl ?h); (case hl => exact Nat.le_of_ble_eq_true rfl))
  | ((with_reducible refine' WS_Assign ?h ?hs); (case hs => first | rfl | with_unfolding_all rfl))
  | ((with_reducible refine' WS_Expr ?h ?hs); (case hs => first | rfl | with_unfolding_all rfl))
  | ((with_reducible refine' WS_Aug ?hv ?h); (case hv => specialize "at")))
local macro_rules | `(tactic| specialize "E") => `(tactic| (with_reducible show WV _ _ _ _ _ _ _); first
  | with_reducible first | refine' WE_int ?_ | refine' WE_BinOp ?_ | refine' WE_none ?_ | refine' WE_str ?_ | refine' WE_bool ?_ | refine' WE_IfExp ?_ | refine' WE_And ?_ | refine' WE_Unary ?_ | refine' WE_Slice ?_ | refine' WE_Sub ?_ | refine' WE_List ?_ | refine' WE_Tuple ?_
  | ((with_reducible refine' WE_local ?hv ?h); (case hv => specialize "at"))
  | ((with_reducible refine' WE_Compare ?h ?hb); (case hb => rfl))
  | ((with_reducible refine' WE_Meth ?h ?hb ?hs ?hn ?hl); (case hb => rfl); (case hs => rfl); (case hn => decide); (case hl => rfl))
  | specialize "N")
local macro_rules | `(tactic| specialize "B") => `(tactic| (with_reducible show WT _ _ _ _ _ _ _); first
  | with_reducible first | refine' WB_bool ?_ | refine' WB_Not ?_ | refine' WB_Bool ?_ | refine' WAll_and ?_ | refine' WAll_and_nil ?_ | refine' WAll_or ?_ | refine' WAll_or_nil ?_
  | ((with_reducible refine' WB_Compare ?h ?hb); (case hb => rfl))
  | ((with_reducible refine' WB_Compare2 ?h ?hb); (case hb => rfl))
  | ((with_reducible refine' WB_val ?h ?hb); (case hb => rfl)))
local macro_rules | `(tactic| specialize "P") => `(tactic| (with_reducible show WL _ _ _ _ _ _ _); first
  | ((with_reducible refine' WSpl_cons ?h ?he); (case he => rfl))
  | with_reducible refine' WSpl_nil ?_)
local macro_rules | `(tactic| specialize "O") => `(tactic| first
  | with_reducible first | refine' cmp_lt ?_ | refine' cmp_le ?_ | refine' cmp_gt ?_ | refine' cmp_ge ?_ | refine' cmp_eq ?_ | refine' cmp_ne ?_ | refine' cmp_is_none ?_ | refine' cmp_isnot_none ?_ | refine' cmp_eq_str ?_ | refine' cmp_eq_bool ?_ | refine' cmp_ne_bool ?_ | refine' cmp_eq_bytes ?_ | refine' cmp_ne_bytes ?_ | refine' un_neg ?_)
local macro_rules | `(tactic| specialize "NG") => `(tactic| (with_reducible refine' WE_callG ?g ?o ?hx ?hd ?h ?he ?hs ?hn); (case g => exact rfl); (case o => exact ⟨_, _, rfl, rfl⟩); (case hx => specialize "kk"); (case hd => specialize "kk"); (case he => rfl); (case hs => rfl); (case hn => decide))
local macro_rules | `(tactic| specialize "NB") => `(tactic| (with_reducible refine' WE_callB ?b ?n ?hx ?hn1 ?hd ?h ?he ?hs ?hn); (case b => with_reducible first | exact b_ord | exact b_len | exact b_chr | exact b_isinstance | exact b_max | exact b_min); (case n => with_reducible first | exact n_ord _ | exact n_len _ | exact n_chr _ | exact n_isinstance _ | exact n_max _ | exact n_min _); (case hx => specialize "kk"); (case hn1 => specialize "kk"); (case hd => specialize "kk"); (case he => rfl); (case hs => rfl); (case hn => decide))
local macro_rules | `(tactic| specialize "NT") => `(tactic| (with_reducible refine' WE_callT ?b ?n ?hx ?hn1 ?hd ?h ?he ?hs ?hn); (case b => with_reducible first | exact b_bytearray | exact b_bytes | exact b_range | exact b_list | exact b_int); (case n => with_reducible first | exact n_bytearray _ | exact n_bytes _ | exact n_range _ | exact n_list _ | exact n_int _); (case hx => specialize "kk"); (case hn1 => specialize "kk"); (case hd => specialize "kk"); (case he => rfl); (case hs => rfl); (case hn => decide))
local macro_rules | `(tactic| specialize "NN") => `(tactic| first | ((with_reducible refine' WE_nameT ?b ?n ?hx ?hn1 ?hd ?h); (case b => with_reducible first | exact b_int | exact b_str | exact b_bytes | exact b_bool | exact b_list); (case n => with_reducible first | exact n_int _ | exact n_str _ | exact n_bytes _ | exact n_bool _ | exact n_list _); (case hx => specialize "kk"); (case hn1 => specialize "kk"); (case hd => specialize "kk")) | ((with_reducible refine' WE_gint ?g ?hx ?hd ?h); (case g => with_reducible first | exact gv_WORD _ | exact gv_ZERO_TYPE _ | exact gv_ONE_TYPE _ | exact gv_BLOB_TYPE _ | exact gv_TEXT_TYPE _); (case hx => specialize "kk"); (case hd => specialize "kk")) | ((with_reducible refine' WE_gstr ?g ?hx ?hd ?h); (case g => with_reducible exact gv_REPLACEMENT _); (case hx => specialize "kk"); (case hd => specialize "kk")) | ((with_reducible refine' WE_gref ?g ?hx ?hd ?h); (case g => with_reducible exact gv_NUMBER_SIZES _); (case hx => specialize "kk"); (case hd => specialize "kk")))
local macro_rules | `(tactic| specialize "N") => `(tactic| first
  | ((with_reducible show WV _ _ (eval (Expr.Call (Expr.Name _ _) _ _ _) _) _ _ _ _); first | specialize "NG" | specialize "NT" | specialize "NB")
  | ((with_reducible show WV _ _ (eval (Expr.Name _ _) _) _ _ _ _); specialize "NN"))
local macro_rules | `(tactic| specialize "1") => `(tactic| first | specialize "S" | specialize "E" | specialize "B" | specialize "P" | specialize "O" | specialize "M")
local macro_rules | `(tactic| specialize "w") => `(tactic| repeat specialize "1")
section
open PySem PySem.W PyProof.Rows
set_option Elab.async false
set_option linter.unusedVariables false
set_option maxRecDepth 100000
set_option maxHeartbeats 4000000

section
variable {F : FC} {c : Cx} {X : XP} {m : Loc} {H : AHeap}
theorem call_appendN {a : Addr} {ns : List Nat} {i : Int} {Q : AV → AHeap → Prop} (n : Nat) (e : H a = some (.list (nints ns))) (hl : ns.length ≤ bigLine) (h : Q .none (H.set a (.list (nints (ns ++ [n]))))) (hi : i = n := by rfl) : WCall F c (.builtin "list.append") [.ref a, .int i] Q X m H := by
  subst hi
  refine call_append e (by rw [nints_length]; exact hl) ?_
  rw [show nints ns ++ [AV.int (n : Nat)] = nints (ns ++ [n]) by rw [nints_append]; rfl]
  exact h
theorem call_reverseN {a : Addr} {ns : List Nat} {Q : AV → AHeap → Prop} (e : H a = some (.list (nints ns))) (hl : ns.length ≤ bigLine) (h : Q .none (H.set a (.list (nints ns.reverse)))) : WCall F c (.builtin "list.reverse") [.ref a] Q X m H := by
  refine call_reverse e (by rw [nints_length]; exact hl) ?_
  rw [← nints_reverse]; exact h
end
theorem c_signed {F : FC} {c : Cx} {X : XP} {m : Loc} {H : AHeap} {n : Nat} {Q : AV → AHeap → Prop} (ok : FOk F 1)
    (h : Q (.int (if n < 9223372036854775808 then (n : Int) else (n : Int) - 18446744073709551616)) H) : WCall F c (.ref 115) [.int n] Q X m H := by
  refine body_signed ok fun c' hw => ?_
  conv => arg 3; whnf
  specialize "w"
  with_reducible refine' op_div ?_ ?_ ?_
  · decide
  · decide
  specialize "w"
  refine br (fun hc => ?_) fun hc => ?_
  · specialize "w"
    refine op_sub ?_
    specialize "w"
    rw [if_neg (by lia)] at h
    exact ⟨H, .refl _, h⟩
  · specialize "w"
    rw [if_pos (by lia)] at h
    exact ⟨H, .refl _, h⟩
theorem c_put_varint {F : FC} {c : Cx} {X : XP} {m : Loc} {H : AHeap} {n : Int} {N : Nat} {Q : AV → AHeap → Prop} (ok : FOk F 1) (hN : n % 18446744073709551616 = N)
    (h : Q (.bytes (varint N)) H) : WCall F c (.ref 101) [.int n] Q X m H := by
  refine body_put_varint ok fun c' hw => ?_
  conv => arg 3; whnf
  specialize "w"
  with_reducible refine' op_mod ?_ ?_
  · decide
  rw [hN]
  have hlt : N < 18446744073709551616 := by lia
  specialize "w"
  intro d hd
  specialize "w"
  refine op_powN 2 56 72057594037927936 ?_
  specialize "w"
  refine br (fun hc => ?_) fun hc => ?_
  · specialize "w"
    refine op_andN 8 256 ?_
    specialize "w"
    refine call_appendN (ns := []) (N % 256) (AHeap.set_same _ _ _) (by simp) ?_
    rw [AHeap.set_set]
    specialize "w"
    refine iop_shrN 8 256 ?_
    specialize "w"
    refine WS_For ?_
    specialize "w"
    refine range1 fun e he => ?_
    refine rng_k 0 8 he ?_
    refine WLoop_ind asgN_mono (fun r m H' => ∃ k j R acc tv, r = rg j k ∧ m = [(Str.ofString "n", some (.int n)), (Str.ofString "rest", some (.int (R : Nat))), (Str.ofString "found", some (.ref d)), (Str.ofString "turn", tv)] ∧
      H' = H.set d (.list (nints acc)) ∧ acc.length + k ≤ 9 ∧ v8 k R acc.reverse = varint N) (fun _ _ _ _ => trivial) ?_ ?_ ⟨8, 0, N / 256, [N % 256], none, rfl, rfl, rfl, by simp, by unfold varint; rw [if_neg (by lia)]; rfl⟩
    · rintro v r m H' ⟨k, j, R, acc, tv, e, rfl, rfl, hl, hv⟩
      obtain ⟨k, rfl, rfl, rfl⟩ := rg_cons e
      specialize "w"
      refine op_andN 7 128 ?_
      specialize "w"
      refine op_orN' (R % 128) 128 7 (by lia) (by decide) ?_
      specialize "w"
      refine call_appendN (R % 128 + 128) (AHeap.set_same _ _ _) (by show _ ≤ 16777216; lia) ?_
      rw [AHeap.set_set]
      specialize "w"
      refine iop_shrN 7 128 ?_
      specialize "w"
      refine ⟨k, j + 1, R / 128, acc ++ [R % 128 + 128], _, rfl, rfl, rfl, by simp; lia, ?_⟩
      rw [← hv, List.reverse_append, Nat.add_comm (R % 128)]; rfl
    · rintro m H' ⟨k, j, R, acc, tv, e, rfl, rfl, hl, hv⟩
      obtain rfl := rg_nil e
      specialize "w"
      refine call_reverseN (AHeap.set_same _ _ _) (by show _ ≤ 16777216; lia) ?_
      rw [AHeap.set_set]
      specialize "w"
      have hv' : acc.reverse = varint N := hv
      rw [hv']
      refine bytes_list (AHeap.set_same _ _ _) (varint_lt N) (by have := varint_length_le N; show _ ≤ 16777216; lia) ?_
      specialize "w"
      exact ret_sub ((AHeap.Sub.refl _).new hd) h
  · specialize "w"
    refine op_andN 7 128 ?_
    specialize "w"
    refine call_appendN (ns := []) (N % 128) (AHeap.set_same _ _ _) (by simp) ?_
    rw [AHeap.set_set]
    specialize "w"
    refine iop_shrN 7 128 ?_
    specialize "w"
    have hv0 : varint N = vtail (N / 128) [N % 128] := by unfold varint; rw [if_pos (by lia)]
    refine WS_While (fun k m H' => ∃ R acc, k = R ∧ m = [(Str.ofString "n", some (.int n)), (Str.ofString "rest", some (.int (R : Nat))), (Str.ofString "found", some (.ref d)), (Str.ofString "turn", none)] ∧
      H' = H.set d (.list (nints acc)) ∧ (∃ j, acc.length + j ≤ 9 ∧ R < 128 ^ j) ∧ vtail R acc.reverse = varint N) (N / 128) ⟨_, [N % 128], rfl, rfl, rfl, ⟨8, by simp, by lia⟩, by rw [hv0]; rfl⟩ ?_
    rintro k m H' ⟨R, acc, rfl, rfl, rfl, ⟨j, hl, hR⟩, hv⟩
    specialize "w"
    refine br (fun hc => ?_) fun hc => ?_
    · have hpos : 0 < k := by lia
      obtain ⟨j, rfl⟩ : ∃ i, j = i + 1 := by
        cases j with
        | zero => simp at hR; lia
        | succ i => exact ⟨i, rfl⟩
      specialize "w"
      refine op_andN 7 128 ?_
      specialize "w"
      refine op_orN' (k % 128) 128 7 (by lia) (by decide) ?_
      specialize "w"
      refine call_appendN (k % 128 + 128) (AHeap.set_same _ _ _) (by show _ ≤ 16777216; lia) ?_
      rw [AHeap.set_set]
      specialize "w"
      refine iop_shrN 7 128 ?_
      specialize "w"
      refine ⟨k / 128, by lia, k / 128, acc ++ [k % 128 + 128], rfl, rfl, rfl, ⟨j, by simp; lia, ?_⟩, ?_⟩
      · rw [Nat.pow_succ] at hR; exact Nat.div_lt_of_lt_mul (by rw [Nat.mul_comm]; exact hR)
      · rw [← hv, List.reverse_append, Nat.add_comm (k % 128), vtail_pos hpos]; rfl
    · obtain rfl : k = 0 := by lia
      specialize "w"
      refine call_reverseN (AHeap.set_same _ _ _) (by show _ ≤ 16777216; lia) ?_
      rw [AHeap.set_set]
      specialize "w"
      have hv' : acc.reverse = varint N := by rw [← hv, vtail_zero]
      rw [hv']
      refine bytes_list (AHeap.set_same _ _ _) (varint_lt N) (by have := varint_length_le N; show _ ≤ 16777216; lia) ?_
      specialize "w"
      exact ret_sub ((AHeap.Sub.refl _).new hd) h
end
section
open PySem PySem.W PyProof.Rows
set_option Elab.async false
set_option linter.unusedVariables false
set_option maxRecDepth 100000
set_option maxHeartbeats 4000000

def leadOf (n : Nat) : Option (Nat × Nat × Nat) :=
  if n < 128 then some (0, n, 0) else if 194 ≤ n ∧ n < 224 then some (1, n % 32, 128) else if 224 ≤ n ∧ n < 240 then some (2, n % 16, 2048) else if 240 ≤ n ∧ n < 245 then some (3, n % 8, 65536) else none
def leadK (Q : AV → AHeap → Prop) (H : AHeap) : Option (Nat × Nat × Nat) → Prop
  | none => Q .none H
  | some (f, c, l) => ∀ d, H d = none → Q (.ref d) (H.set d (.tuple [.int (f : Nat), .int (c : Nat), .int (l : Nat)]))
theorem c_lead_of {F : FC} {c : Cx} {X : XP} {m : Loc} {H : AHeap} {n : Nat} {Q : AV → AHeap → Prop} (ok : FOk F 1) (h : leadK Q H (leadOf n)) : WCall F c (.ref 72) [.int n] Q X m H := by
  unfold leadOf at h
  refine body_lead_of ok fun c' hw => ?_
  conv => arg 3; whnf
  specialize "w"
  refine br (fun h1 => ?_) fun h1 => ?_
  · specialize "w"
    intro d hd
    specialize "w"
    rw [if_pos (by omega)] at h
    exact ⟨_, .refl _, h d hd⟩
  rw [if_neg (by omega)] at h
  specialize "w"
  refine br (fun h2 => ?_) fun h2 => ?_
  · specialize "w"
    refine br (fun h3 => ?_) fun h3 => ?_
    · specialize "w"
      refine op_andN 5 32 ?_
      specialize "w"
      intro d hd
      specialize "w"
      rw [if_pos (by omega)] at h
      exact ⟨_, .refl _, h d hd⟩
    rw [if_neg (by omega)] at h
    specialize "w"
    refine br (fun h4 => ?_) fun h4 => ?_
    · specialize "w"
      refine br (fun h5 => ?_) fun h5 => ?_
      · specialize "w"
        refine op_andN 4 16 ?_
        specialize "w"
        intro d hd
        specialize "w"
        rw [if_pos (by omega)] at h
        exact ⟨_, .refl _, h d hd⟩
      rw [if_neg (by omega)] at h
      specialize "w"
      refine br (fun h6 => ?_) fun h6 => ?_
      · specialize "w"
        refine br (fun h7 => ?_) fun h7 => ?_
        · specialize "w"
          refine op_andN 3 8 ?_
          specialize "w"
          intro d hd
          specialize "w"
          rw [if_pos (by omega)] at h
          exact ⟨_, .refl _, h d hd⟩
        rw [if_neg (by omega)] at h
        specialize "w"
        exact ⟨_, .refl _, h⟩
      · omega
    · omega
  · rw [if_neg (by omega), if_neg (by omega), if_neg (by omega)] at h
    specialize "w"
    refine br (fun h4 => ?_) fun h4 => ?_
    · omega
    specialize "w"
    refine br (fun h4 => ?_) fun h4 => ?_
    · omega
    specialize "w"
    exact ⟨_, .refl _, h⟩
def clsName : AV → Str
  | .none => Str.ofString "null"
  | .int _ => Str.ofString "integer"
  | .str _ => Str.ofString "text"
  | _ => Str.ofString "blob"
theorem c_storage_class {F : FC} {c : Cx} {X : XP} {m : Loc} {H : AHeap} {v : AV} {Q : AV → AHeap → Prop} (ok : FOk F 1) (hv : v.plain = true) (h : Q (.str (clsName v)) H) : WCall F c (.ref 93) [v] Q X m H := by
  refine body_storage_class ok fun c' hw => ?_
  conv => arg 3; whnf
  specialize "w"
  cases v with
  | none =>
    refine ift ?_
    specialize "w"
    exact ⟨_, .refl _, h⟩
  | int i =>
    refine iff' ?_
    specialize "w"
    refine isi_any rfl (by simp) ?_
    specialize "w"
    refine ift ?_
    specialize "w"
    exact ⟨_, .refl _, h⟩
  | str i =>
    refine iff' ?_
    specialize "w"
    refine isi_any rfl (by simp) ?_
    specialize "w"
    refine iff' ?_
    specialize "w"
    refine isi_any rfl (by simp) ?_
    specialize "w"
    refine ift ?_
    specialize "w"
    exact ⟨_, .refl _, h⟩
  | bytes i =>
    refine iff' ?_
    specialize "w"
    refine isi_any rfl (by simp) ?_
    specialize "w"
    refine iff' ?_
    specialize "w"
    refine isi_any rfl (by simp) ?_
    specialize "w"
    refine iff' ?_
    specialize "w"
    refine isi_any rfl (by simp) ?_
    specialize "w"
    refine ift ?_
    specialize "w"
    exact ⟨_, .refl _, h⟩
  | _ => cases hv
end
section
open PySem PySem.W PyProof.Rows
set_option Elab.async false
set_option linter.unusedVariables false
set_option maxRecDepth 100000
set_option maxHeartbeats 4000000

def sizeOfKind : Nat → Nat
  | 0 => 0 | 1 => 1 | 2 => 2 | 3 => 3 | 4 => 4 | 5 => 6 | 6 => 8 | _ => 0
theorem sizeOfKind_le (k : Nat) : sizeOfKind k ≤ 8 := by unfold sizeOfKind; split <;> lia
section
variable {F : FC} {c : Cx} {X : XP} {m : Loc} {H : AHeap} {Q : AV → AHeap → Prop}
theorem o_SIZES (P : Params) : ∃ o us k, (KF P).lookup sizesAt = some o ∧ o.cls = .type "tuple" ∧ o.data = .seq us k ∧ us.size = 7 ∧ ∀ i : Nat, i < 7 → ∃ t, us[i]? = some (.int (sizeOfKind i : Nat) t) := by
  refine ⟨_, _, _, rfl, rfl, rfl, rfl, fun i hi => ?_⟩
  match i, hi with
  | 0, _ => exact ⟨_, rfl⟩
  | 1, _ => exact ⟨_, rfl⟩
  | 2, _ => exact ⟨_, rfl⟩
  | 3, _ => exact ⟨_, rfl⟩
  | 4, _ => exact ⟨_, rfl⟩
  | 5, _ => exact ⟨_, rfl⟩
  | 6, _ => exact ⟨_, rfl⟩
theorem sub_sizes {value slice : Expr} {i : Nat} (hK : F.K = KF) (hi : i < 7) (h : Q (.int (sizeOfKind i : Nat)) H) (hs : plainSlice slice := by intro _ _; rfl) : WSub F c value slice (.ref sizesAt) (.int i) Q X m H := by
  obtain ⟨o, us, k, h1, h2, h3, h4, h5⟩ := o_SIZES c.w.params
  obtain ⟨t, h6⟩ := h5 i hi
  exact sub_ktup (v := .int (sizeOfKind i : Nat)) (hK ▸ h1) h2 h3 h6 ⟨t, rfl⟩ (by show i ≤ 16777216; lia) h hs
theorem len_sizes (hK : F.K = KF) (h : Q (.int (7 : Nat)) H) : WCall F c (.builtin "len") [.ref sizesAt] Q X m H := by
  obtain ⟨o, us, k, h1, h2, h3, h4, h5⟩ := o_SIZES c.w.params
  exact len_ktup (hK ▸ h1) h2 h3 h4 (Nat.le_of_ble_eq_true rfl) h
end
theorem getV_lt {t num b : Nat} (hn : num < 2 ^ (7 * t)) : num * 128 + b % 128 < 2 ^ (7 * (t + 1)) := by
  rw [show 7 * (t + 1) = 7 * t + 7 by lia, Nat.pow_add]
  have : (num + 1) * 2 ^ 7 ≤ 2 ^ (7 * t) * 2 ^ 7 := Nat.mul_le_mul_right _ hn
  lia
theorem drop_cons {ns : List Nat} {b x : Nat} {r : List Nat} (h : ns.drop b = x :: r) : ns[b]? = some x ∧ ns.drop (b + 1) = r ∧ b < ns.length := by
  have h1 : (ns.drop b).head? = some x := by rw [h]; rfl
  rw [List.head?_drop] at h1
  refine ⟨h1, ?_, ?_⟩
  · have := congrArg List.tail h
    rw [List.tail_drop] at this
    exact this
  · obtain ⟨q, _⟩ := List.getElem?_eq_some_iff.mp h1; exact q
theorem c_get_varint {F : FC} {c : Cx} {X : XP} {m : Loc} {H : AHeap} {ns : List Nat} {a v e : Nat} {Q : AV → AHeap → Prop} (ok : FOk F 1) (hz : ns.length ≤ bigLine) (hb : ∀ n ∈ ns, n < 256) (hv : getV 9 0 (ns.drop a) a = some (v, e))
    (h : ∀ d, H d = none → Q (.ref d) (H.set d (.tuple [.int (v : Nat), .int (e : Nat)]))) : WCall F c (.ref 108) [.bytes ns, .int (a : Nat)] Q X m H := by
  refine body_get_varint ok fun c' hw => ?_
  conv => arg 3; whnf
  specialize "w"
  refine WS_For ?_
  specialize "w"
  refine range1 fun e1 he => ?_
  refine rng_k 0 9 he ?_
  refine WLoop_ind asgN_mono (fun r m H' => ∃ k t b num tv ov, r = rg t k ∧ t + k = 9 ∧ m = [(Str.ofString "octets", some (.bytes ns)), (Str.ofString "at", some (.int (b : Nat))), (Str.ofString "number", some (.int (num : Nat))), (Str.ofString "turn", tv), (Str.ofString "octet", ov)] ∧
    H' = H ∧ getV k num (ns.drop b) b = some (v, e) ∧ num < 2 ^ (7 * t)) (fun _ _ _ _ => trivial) ?_ ?_ ⟨9, 0, a, 0, none, none, rfl, rfl, rfl, rfl, hv, by decide⟩
  · rintro w r m H' ⟨k, t, b, num, tv, ov, e2, htk, rfl, rfl, hg, hn⟩
    obtain ⟨k, rfl, rfl, rfl⟩ := rg_cons e2
    have ht : t ≤ 8 := by lia
    have hn64 : num < 2 ^ 56 := Nat.lt_of_lt_of_le hn (Nat.pow_le_pow_right (by decide) (by lia))
    cases hd : ns.drop b with
    | nil => rw [hd] at hg; simp [getV] at hg
    | cons x r =>
      obtain ⟨hx, hr, hlt⟩ := drop_cons hd
      rw [hd] at hg
      have hx256 := hb x (List.mem_of_getElem? hx)
      have hg' : (if k = 0 then some (num * 256 + x, b + 1) else if x < 128 then some (num * 128 + x % 128, b + 1) else getV k (num * 128 + x % 128) r (b + 1)) = some (v, e) := hg
      specialize "w"
      refine len_bytesA hz ?_
      specialize "w"
      refine br (fun hc => ?_) fun hc => ?_
      · lia
      specialize "w"
      refine sub_bytes hx hz ?_
      specialize "w"
      refine iop_addN 1 ?_
      specialize "w"
      refine breq (fun hc => ?_) fun hc => ?_
      · have hk : k = 0 := by lia
        rw [if_pos hk] at hg'
        specialize "w"
        refine op_shlN 8 256 (by lia) ?_
        specialize "w"
        refine op_orN (num * 256) x 8 (by lia) (by lia) ?_
        specialize "w"
        intro d hd
        specialize "w"
        injection hg' with hg'
        injection hg' with h1 h2
        rw [h1, h2]
        exact ⟨_, .refl _, h d hd⟩
      · have hk : ¬ k = 0 := by lia
        rw [if_neg hk] at hg'
        specialize "w"
        refine op_shlN 7 128 (by lia) ?_
        specialize "w"
        refine op_andN 7 128 ?_
        specialize "w"
        refine op_orN (num * 128) (x % 128) 7 (by lia) (by lia) ?_
        specialize "w"
        refine br (fun hc2 => ?_) fun hc2 => ?_
        · rw [if_pos (by lia)] at hg'
          specialize "w"
          intro d hd
          specialize "w"
          injection hg' with hg'
          injection hg' with h1 h2
          rw [h1, h2]
          exact ⟨_, .refl _, h d hd⟩
        · rw [if_neg (by lia)] at hg'
          specialize "w"
          exact ⟨k, t + 1, b + 1, num * 128 + x % 128, _, _, rfl, by lia, rfl, rfl, by rw [hr]; exact hg', getV_lt hn⟩
  · rintro m H' ⟨k, t, b, num, tv, ov, e2, htk, rfl, rfl, hg, hn⟩
    obtain rfl := rg_nil e2
    simp [getV] at hg
theorem c_put_fixed {F : FC} {c : Cx} {X : XP} {m : Loc} {H : AHeap} {n : Int} {k R : Nat} {Q : AV → AHeap → Prop} (ok : FOk F 1) (hk : k ≤ 8) (hR : n % ((256 ^ k : Nat) : Int) = R)
    (h : Q (.bytes (fix k R [])) H) : WCall F c (.ref 122) [.int n, .int (k : Nat)] Q X m H := by
  refine body_put_fixed ok fun c' hw => ?_
  conv => arg 3; whnf
  specialize "w"
  refine op_powN 256 k (256 ^ k) ?_ rfl rfl rfl (by decide) (by lia)
  have hpos : 0 < 256 ^ k := Nat.pow_pos (by decide)
  with_reducible refine' op_mod ?_ ?_
  · lia
  rw [hR]
  specialize "w"
  intro d hd
  specialize "w"
  refine WS_For ?_
  specialize "w"
  refine range1 fun e he => ?_
  refine rng_k 0 k he ?_ rfl (by rw [Nat.zero_add]) (by lia)
  refine WLoop_ind asgN_mono (fun r m H' => ∃ i j R' acc tv, r = rg j i ∧ m = [(Str.ofString "n", some (.int n)), (Str.ofString "size", some (.int (k : Nat))), (Str.ofString "rest", some (.int (R' : Nat))), (Str.ofString "found", some (.ref d)), (Str.ofString "turn", tv)] ∧
    H' = H.set d (.list (nints acc)) ∧ acc.length + i ≤ 8 ∧ fix i R' acc.reverse = fix k R []) (fun _ _ _ _ => trivial) ?_ ?_ ⟨k, 0, R, [], none, rfl, rfl, rfl, by simp; lia, rfl⟩
  · rintro v r m H' ⟨i, j, R', acc, tv, e, rfl, rfl, hl, hv⟩
    obtain ⟨i, rfl, rfl, rfl⟩ := rg_cons e
    specialize "w"
    refine op_andN 8 256 ?_
    specialize "w"
    refine call_appendN (R' % 256) (AHeap.set_same _ _ _) (by show _ ≤ 16777216; lia) ?_
    rw [AHeap.set_set]
    specialize "w"
    refine iop_shrN 8 256 ?_
    specialize "w"
    refine ⟨i, j + 1, R' / 256, acc ++ [R' % 256], _, rfl, rfl, rfl, by simp; lia, ?_⟩
    rw [← hv, List.reverse_append]; rfl
  · rintro m H' ⟨i, j, R', acc, tv, e, rfl, rfl, hl, hv⟩
    obtain rfl := rg_nil e
    specialize "w"
    refine call_reverseN (AHeap.set_same _ _ _) (by show _ ≤ 16777216; lia) ?_
    rw [AHeap.set_set]
    specialize "w"
    have hv' : acc.reverse = fix k R [] := hv
    rw [hv']
    refine bytes_list (AHeap.set_same _ _ _) (fix_lt k R [] (by simp)) (by rw [fix_length]; show _ ≤ 16777216; lia) ?_
    specialize "w"
    exact ret_sub ((AHeap.Sub.refl _).new hd) h
end
section
open PySem PySem.W PyProof.Rows
set_option Elab.async false
set_option linter.unusedVariables false
set_option maxRecDepth 100000
set_option maxHeartbeats 4000000

def fixInt (size V : Nat) : Int := if 0 < size ∧ 256 ^ size / 2 ≤ V then (V : Int) - ((256 ^ size : Nat) : Int) else V
theorem take_succ_drop {ns : List Nat} {j i x : Nat} (h : ns[j]? = some x) : (ns.drop j).take (i + 1) = x :: (ns.drop (j + 1)).take i := by
  obtain ⟨hl, hx⟩ := List.getElem?_eq_some_iff.mp h
  rw [List.drop_eq_getElem_cons hl, hx, List.take_succ_cons]
theorem c_get_fixed {F : FC} {c : Cx} {X : XP} {m : Loc} {H : AHeap} {ns : List Nat} {a k : Nat} {Q : AV → AHeap → Prop} (ok : FOk F 1) (hz : ns.length ≤ bigLine) (hb : ∀ n ∈ ns, n < 256) (hk : k ≤ 8) (ha : a + k ≤ ns.length)
    (h : Q (.int (fixInt k (unfix 0 ((ns.drop a).take k)))) H) : WCall F c (.ref 129) [.bytes ns, .int (a : Nat), .int (k : Nat)] Q X m H := by
  have hz' : ns.length ≤ 16777216 := hz
  refine body_get_fixed ok fun c' hw => ?_
  conv => arg 3; whnf
  specialize "w"
  refine WS_For ?_
  specialize "w"
  refine op_addN k ?_
  specialize "w"
  refine range2 fun e he => ?_
  refine rng_k a k he ?_
  generalize hV : unfix 0 ((ns.drop a).take k) = V at h
  refine WLoop_ind asgN_mono (fun r m H' => ∃ i j num tv, r = rg j i ∧ j + i = a + k ∧ i ≤ 8 ∧ m = [(Str.ofString "octets", some (.bytes ns)), (Str.ofString "at", some (.int (a : Nat))), (Str.ofString "size", some (.int (k : Nat))), (Str.ofString "number", some (.int (num : Nat))), (Str.ofString "place", tv)] ∧
    H' = H ∧ num < 256 ^ (8 - i) ∧ unfix num ((ns.drop j).take i) = V) (fun _ _ _ _ => trivial) ?_ ?_ ⟨k, a, 0, none, rfl, rfl, hk, rfl, rfl, Nat.pow_pos (by decide), hV⟩
  · rintro v r m H' ⟨i, j, num, tv, e2, hij, hi, rfl, rfl, hn, hv⟩
    obtain ⟨i, rfl, rfl, rfl⟩ := rg_cons e2
    have hj : j < ns.length := by lia
    obtain ⟨x, hx⟩ : ∃ x, ns[j]? = some x := ⟨ns[j], List.getElem?_eq_getElem hj⟩
    have hx256 := hb x (List.mem_of_getElem? hx)
    have hn56 : num < 2 ^ 56 := Nat.lt_of_lt_of_le hn (by
      have : 256 ^ (8 - (i + 1)) ≤ 256 ^ 7 := Nat.pow_le_pow_right (by decide) (by lia)
      exact Nat.le_trans this (by decide))
    specialize "w"
    refine op_shlN 8 256 (by lia) ?_
    specialize "w"
    refine sub_bytes hx hz ?_
    specialize "w"
    refine op_orN (num * 256) x 8 (by lia) (by lia) ?_
    specialize "w"
    refine ⟨i, j + 1, num * 256 + x, _, rfl, by lia, by lia, rfl, rfl, ?_, ?_⟩
    · rw [show 8 - i = 8 - (i + 1) + 1 by lia, Nat.pow_succ]
      lia
    · rw [← hv, take_succ_drop hx]; rfl
  · rintro m H' ⟨i, j, num, tv, e2, hij, hi, rfl, rfl, hn, hv⟩
    obtain rfl := rg_nil e2
    have hv' : num = V := by simpa [unfix] using hv
    subst hv'
    unfold fixInt at h
    specialize "w"
    refine br (fun h1 => ?_) fun h1 => ?_
    · specialize "w"
      refine op_powN 256 k (256 ^ k) ?_ rfl rfl rfl (by decide) (by lia)
      specialize "w"
      refine op_divN 2 (by decide) (by decide) ?_
      specialize "w"
      refine br (fun h2 => ?_) fun h2 => ?_
      · specialize "w"
        refine op_powN 256 k (256 ^ k) ?_ rfl rfl rfl (by decide) (by lia)
        refine op_sub ?_
        specialize "w"
        rw [if_pos ⟨by lia, by lia⟩] at h
        exact ⟨_, .refl _, h⟩
      · specialize "w"
        rw [if_neg (by lia)] at h
        exact ⟨_, .refl _, h⟩
    · specialize "w"
      rw [if_neg (by lia)] at h
      exact ⟨_, .refl _, h⟩
-- number_type
def fits (j : Nat) (n : Int) : Prop := -((256 ^ sizeOfKind j / 2 : Nat) : Int) ≤ n ∧ n < ((256 ^ sizeOfKind j / 2 : Nat) : Int)
def kindFrom : Nat → Nat → Int → Nat
  | _, 0, _ => 7
  | j, k + 1, n => if -((256 ^ sizeOfKind j / 2 : Nat) : Int) ≤ n ∧ n < ((256 ^ sizeOfKind j / 2 : Nat) : Int) then j else kindFrom (j + 1) k n
def numType (n : Int) : Nat := if n = 0 then 8 else if n = 1 then 9 else kindFrom 1 6 n
theorem c_number_type {F : FC} {c : Cx} {X : XP} {m : Loc} {H : AHeap} {n : Int} {Q : AV → AHeap → Prop} (ok : FOk F 1) (hn : numType n ≠ 7)
    (h : Q (.int (numType n : Nat)) H) : WCall F c (.ref 136) [.int n] Q X m H := by
  unfold numType at h hn
  refine body_number_type ok fun c' hw => ?_
  conv => arg 3; whnf
  specialize "w"
  refine breq (fun h0 => ?_) fun h0 => ?_
  · specialize "w"
    rw [if_pos h0] at h
    exact ⟨_, .refl _, h⟩
  rw [if_neg h0] at h hn
  specialize "w"
  refine breq (fun h1 => ?_) fun h1 => ?_
  · specialize "w"
    rw [if_pos h1] at h
    exact ⟨_, .refl _, h⟩
  rw [if_neg h1] at h hn
  specialize "w"
  refine WS_For ?_
  specialize "w"
  refine range2 fun e he => ?_
  refine rng_k 1 6 he ?_
  refine WLoop_ind asgN_mono (fun r m H' => ∃ i j kv hv, r = rg j i ∧ j + i = 7 ∧ m = [(Str.ofString "n", some (.int n)), (Str.ofString "kind", kv), (Str.ofString "half", hv)] ∧ H' = H ∧ kindFrom j i n = kindFrom 1 6 n) (fun _ _ _ _ => trivial) ?_ ?_ ⟨6, 1, none, none, rfl, rfl, rfl, rfl, rfl⟩
  · rintro v r m H' ⟨i, j, kv, hv, e2, hij, rfl, rfl, hk⟩
    obtain ⟨i, rfl, rfl, rfl⟩ := rg_cons e2
    have hsz := sizeOfKind_le j
    have hk' : (if -((256 ^ sizeOfKind j / 2 : Nat) : Int) ≤ n ∧ n < ((256 ^ sizeOfKind j / 2 : Nat) : Int) then j else kindFrom (j + 1) i n) = kindFrom 1 6 n := hk
    specialize "w"
    refine sub_sizes rfl (by lia) ?_
    refine op_powN 256 (sizeOfKind j) (256 ^ sizeOfKind j) ?_ rfl rfl rfl (by decide) (by lia)
    specialize "w"
    refine op_divN 2 (by decide) (by decide) ?_
    specialize "w"
    refine br (fun h2 => ?_) fun h2 => ?_
    · specialize "w"
      refine br (fun h3 => ?_) fun h3 => ?_
      · specialize "w"
        rw [if_pos ⟨h2, h3⟩] at hk'
        rw [← hk'] at h
        exact ⟨_, .refl _, h⟩
      · rw [if_neg (fun q => h3 q.2)] at hk'
        specialize "w"
        exact ⟨i, j + 1, _, _, rfl, by lia, rfl, rfl, hk'⟩
    · rw [if_neg (fun q => h2 q.1)] at hk'
      specialize "w"
      exact ⟨i, j + 1, _, _, rfl, by lia, rfl, rfl, hk'⟩
  · rintro m H' ⟨i, j, kv, hv, e2, hij, rfl, rfl, hk⟩
    obtain rfl := rg_nil e2
    exact absurd hk.symm (by simpa [kindFrom] using hn)
-- serial_size
def sizeOfType (t : Nat) : Nat := if 12 ≤ t then (t - 12) / 2 else if t = 8 ∨ t = 9 then 0 else sizeOfKind t
section
variable {F : FC} {c : Cx} {X : XP} {m : Loc} {H : AHeap} {Q : AV → AHeap → Prop}
theorem op_subN {n : Nat} {bb : Int} (b : Nat) (hb : b ≤ n) (h : Q (.int (n - b : Nat)) H) (e : bb = b := by rfl) : WOp F c .Sub (.int n) (.int bb) Q X m H := by
  subst e
  refine op_sub ?_
  rw [← Int.natCast_sub hb]; exact h
end
theorem c_serial_size {F : FC} {c : Cx} {X : XP} {m : Loc} {H : AHeap} {t : Nat} {Q : AV → AHeap → Prop} (ok : FOk F 1) (ht : t ≠ 7 ∧ t ≠ 10 ∧ t ≠ 11)
    (h : Q (.int (sizeOfType t : Nat)) H) : WCall F c (.ref 150) [.int (t : Nat)] Q X m H := by
  unfold sizeOfType at h
  refine body_serial_size ok fun c' hw => ?_
  conv => arg 3; whnf
  specialize "w"
  refine br (fun h0 => ?_) fun h0 => ?_
  · specialize "w"
    refine op_subN 12 (by lia) ?_
    specialize "w"
    refine op_divN 2 (by decide) (by decide) ?_
    specialize "w"
    rw [if_pos (by lia)] at h
    exact ⟨_, .refl _, h⟩
  rw [if_neg (by lia)] at h
  specialize "w"
  intro d hd
  specialize "w"
  refine cmp_in_tup (ns := [8, 9]) (AHeap.set_same _ _ _) ?_
  rw [show ([8, 9] : List Int).any (· == (t : Int)) = decide (t = 8 ∨ t = 9) by
    rw [Bool.eq_iff_iff]; simp; lia]
  refine br (fun h1 => ?_) fun h1 => ?_
  · specialize "w"
    rw [if_pos h1] at h
    exact ret_sub ((AHeap.Sub.refl _).new hd) h
  rw [if_neg h1] at h
  specialize "w"
  refine len_sizes rfl ?_
  specialize "w"
  refine br (fun h2 => ?_) fun h2 => ?_
  · specialize "w"
    refine sub_sizes rfl (by lia) ?_
    specialize "w"
    exact ret_sub ((AHeap.Sub.refl _).new hd) h
  · lia
end
section
open PySem PySem.W PyProof.Rows
set_option Elab.async false
set_option linter.unusedVariables false
set_option maxRecDepth 100000
set_option maxHeartbeats 4000000

def cont (a : Nat) (l : List Nat) : Nat := l.foldl (fun a b => a * 64 + b % 64) a
theorem cont_ge : ∀ (l : List Nat) (a : Nat), a ≤ cont a l
  | [], _ => Nat.le_refl _
  | b :: l, a => by
    have := cont_ge l (a * 64 + b % 64)
    show a ≤ cont (a * 64 + b % 64) l
    omega
theorem and192 : ∀ b : Nat, b < 192 → 128 ≤ b → b &&& 192 = 128 := by decide +kernel
section
variable {F : FC} {c : Cx} {X : XP} {m : Loc} {H : AHeap} {Q : AV → AHeap → Prop}
theorem op_and192 {b : Nat} (h1 : 128 ≤ b) (h2 : b < 192) (h : Q (.int 128) H) : WOp F c .BitAnd (.int (b : Nat)) (.int 192) Q X m H := by
  refine op_and ?_
  rw [show (192 : Int) = ((192 : Nat) : Int) from rfl, bitAnd_nat, and192 b h2 h1]; exact h
end
theorem c_code_at {F : FC} {c : Cx} {X : XP} {m : Loc} {H : AHeap} {ns : List Nat} {a f c0 least V : Nat} {l : Addr} {Q : AV → AHeap → Prop} (ok : FOk F 1) (hz : ns.length ≤ bigLine) (hl : H l = some (.tuple [.int (f : Nat), .int (c0 : Nat), .int (least : Nat)]))
    (ha : a + f ≤ ns.length) (hc : ∀ b ∈ (ns.drop a).take f, 128 ≤ b ∧ b < 192) (hV : cont c0 ((ns.drop a).take f) = V) (h1 : least ≤ V) (h2 : V ≤ 1114111)
    (h : Q (.int (V : Nat)) H) : WCall F c (.ref 86) [.bytes ns, .int (a : Nat), .ref l] Q X m H := by
  have hz' : ns.length ≤ 16777216 := hz
  refine body_code_at ok fun c' hw => ?_
  conv => arg 3; whnf
  specialize "w"
  refine WS_AssignT3 ?_
  specialize "w"
  refine ⟨_, _, _, .tuple hl, ?_⟩
  specialize "w"
  refine op_addN f ?_
  specialize "w"
  refine len_bytesA hz ?_
  specialize "w"
  refine br (fun h0 => ?_) fun h0 => ?_
  · omega
  specialize "w"
  refine WS_For ?_
  specialize "w"
  refine op_addN f ?_
  specialize "w"
  refine range2 fun e he => ?_
  refine rng_k a f he ?_
  refine WLoop_ind asgN_mono (fun r m H' => ∃ i j num tv, r = rg j i ∧ j + i = a + f ∧ m = [(Str.ofString "octets", some (.bytes ns)), (Str.ofString "at", some (.int (a : Nat))), (Str.ofString "lead", some (.ref l)), (Str.ofString "follow", some (.int (f : Nat))), (Str.ofString "code", some (.int (num : Nat))), (Str.ofString "least", some (.int (least : Nat))), (Str.ofString "place", tv)] ∧
    H' = H ∧ cont num ((ns.drop j).take i) = V ∧ ∀ b ∈ (ns.drop j).take i, 128 ≤ b ∧ b < 192) (fun _ _ _ _ => trivial) ?_ ?_ ⟨f, a, c0, none, rfl, rfl, rfl, rfl, hV, hc⟩
  · rintro v r m H' ⟨i, j, num, tv, e2, hij, rfl, rfl, hv, hb⟩
    obtain ⟨i, rfl, rfl, rfl⟩ := rg_cons e2
    have hj : j < ns.length := by omega
    obtain ⟨x, hx⟩ : ∃ x, ns[j]? = some x := ⟨ns[j], List.getElem?_eq_getElem hj⟩
    rw [take_succ_drop hx] at hv hb
    have hxb := hb x List.mem_cons_self
    have hn : num ≤ V := by rw [← hv]; exact cont_ge _ _
    specialize "w"
    refine sub_bytes hx hz ?_
    specialize "w"
    refine op_and192 hxb.1 hxb.2 ?_
    specialize "w"
    refine brne (fun q => absurd rfl q) fun _ => ?_
    specialize "w"
    refine op_shlN 6 64 (by omega) ?_
    specialize "w"
    refine sub_bytes hx hz ?_
    specialize "w"
    refine op_andN 6 64 ?_
    refine op_orN (num * 64) (x % 64) 6 (by omega) (by omega) ?_
    specialize "w"
    exact ⟨i, j + 1, num * 64 + x % 64, _, rfl, by omega, rfl, rfl, hv, fun b hb' => hb b (List.mem_cons_of_mem _ hb')⟩
  · rintro m H' ⟨i, j, num, tv, e2, hij, rfl, rfl, hv, hb⟩
    obtain rfl := rg_nil e2
    have hv' : num = V := by simpa [cont] using hv
    subst hv'
    specialize "w"
    refine br (fun h3 => ?_) fun h3 => ?_
    · omega
    specialize "w"
    refine br (fun h4 => ?_) fun h4 => ?_
    · omega
    specialize "w"
    exact ⟨_, .refl _, h⟩
section
variable {F : FC} {c : Cx} {X : XP} {m : Loc} {H : AHeap} {Q : AV → AHeap → Prop}
theorem barr_appendN {a : Addr} {ns : List Nat} {i : Int} (n : Nat) (e : H a = some (.barr ns)) (hn : n < 256) (hl : ns.length < bigLine) (h : Q .none (H.set a (.barr (ns ++ [n])))) (hi : i = n := by rfl) : WCall F c (.builtin "bytearray.append") [.ref a, .int i] Q X m H := by
  subst hi; exact barr_append e hn hl h
end
theorem c_utf8 {F : FC} {c : Cx} {X : XP} {m : Loc} {H : AHeap} {s : Str} {Q : AV → AHeap → Prop} (ok : FOk F 1) (hz : s.cps.size ≤ 1000) (hc : ∀ k ∈ s.cps.toList, k < 1114112)
    (h : Q (.bytes (encs s.cps.toList)) H) : WCall F c (.ref 65) [.str s] Q X m H := by
  refine body_utf8 ok fun c' hw => ?_
  conv => arg 3; whnf
  specialize "w"
  refine barr_new fun d hd => ?_
  specialize "w"
  refine WS_For ?_
  specialize "w"
  refine ⟨_, _, _, .str, .refl _, ?_⟩
  have hlen := encs_length_le s.cps.toList
  have hsz : s.cps.toList.length = s.cps.size := Array.length_toList
  refine WLoop_ind asgN_mono (fun r m H' => ∃ (cs done : List Nat) (tv cv : Option AV), r = cs.map (fun k => AV.str ⟨#[k]⟩) ∧ m = [(Str.ofString "text", some (.str s)), (Str.ofString "found", some (.ref d)), (Str.ofString "sign", tv), (Str.ofString "code", cv)] ∧
    H' = H.set d (.barr (encs done)) ∧ done ++ cs = s.cps.toList) (fun _ _ _ _ => trivial) ?_ ?_ ⟨s.cps.toList, [], none, none, rfl, rfl, rfl, rfl⟩
  · rintro v r m H' ⟨cs, done, tv, cv, e, rfl, rfl, hcs⟩
    cases cs with
    | nil => cases e
    | cons k cs =>
      injection e with e1 e2
      subst e1 e2
      have hk : k < 1114112 := hc k (by rw [← hcs]; simp)
      have hdl : (encs done).length ≤ 4 * done.length := encs_length_le done
      have hdl2 : done.length ≤ 1000 := by
        have := congrArg List.length hcs
        rw [List.length_append] at this; omega
      have big : ∀ n, n ≤ 10000 → n < bigLine := fun n hn => by show n < 16777216; omega
      have fin : ∀ l, enc k = l → (∃ (cs' done' : List Nat) (tv cv : Option AV), cs.map (fun k => AV.str ⟨#[k]⟩) = cs'.map (fun k => AV.str ⟨#[k]⟩) ∧ [(Str.ofString "text", some (.str s)), (Str.ofString "found", some (.ref d)), (Str.ofString "sign", some (AV.str ⟨#[k]⟩)), (Str.ofString "code", some (AV.int (k : Nat)))] = [(Str.ofString "text", some (.str s)), (Str.ofString "found", some (.ref d)), (Str.ofString "sign", tv), (Str.ofString "code", cv)] ∧
          H.set d (.barr (encs done ++ l)) = H.set d (.barr (encs done')) ∧ done' ++ cs' = s.cps.toList) := fun l hl => by
        refine ⟨cs, done ++ [k], _, _, rfl, rfl, ?_, by rw [← hcs]; simp⟩
        rw [show encs (done ++ [k]) = encs done ++ l by unfold encs; rw [List.flatMap_append]; simp [hl]]
      specialize "w"
      refine ord_chr ?_
      specialize "w"
      refine br (fun h1 => ?_) fun h1 => ?_
      · specialize "w"
        refine barr_append (AHeap.set_same _ _ _) (by omega) (big _ (by omega)) ?_
        rw [AHeap.set_set]
        specialize "w"
        exact fin [k] (by unfold enc; rw [if_pos (by omega)])
      specialize "w"
      refine br (fun h2 => ?_) fun h2 => ?_
      · specialize "w"
        refine op_shrN 6 64 ?_
        refine op_orN 192 (k / 64) 6 (by decide) (by omega) ?_
        specialize "w"
        refine barr_appendN (192 + k / 64) (AHeap.set_same _ _ _) (by omega) (big _ (by omega)) ?_
        rw [AHeap.set_set]
        specialize "w"
        refine op_andN 6 64 ?_
        refine op_orN 128 (k % 64) 6 (by decide) (by omega) ?_
        specialize "w"
        refine barr_appendN (128 + k % 64) (AHeap.set_same _ _ _) (by omega) (big _ (by simp; omega)) ?_
        rw [AHeap.set_set]
        specialize "w"
        have f := fin [192 + k / 64, 128 + k % 64] (by unfold enc; rw [if_neg (by omega), if_pos (by omega)])
        simpa only [List.append_assoc, List.cons_append, List.nil_append] using f
      specialize "w"
      with_reducible refine' br (fun h3 => ?_) fun h3 => ?_
      · specialize "w"
        refine op_shrN 12 4096 ?_
        refine op_orN 224 (k / 4096) 5 (by decide) (by omega) ?_
        specialize "w"
        refine barr_appendN (224 + k / 4096) (AHeap.set_same _ _ _) (by omega) (big _ (by omega)) ?_
        rw [AHeap.set_set]
        specialize "w"
        refine op_shrN 6 64 ?_
        specialize "w"
        refine op_andN 6 64 ?_
        refine op_orN 128 (k / 64 % 64) 6 (by decide) (by omega) ?_
        specialize "w"
        refine barr_appendN (128 + k / 64 % 64) (AHeap.set_same _ _ _) (by omega) (big _ (by simp; omega)) ?_
        rw [AHeap.set_set]
        specialize "w"
        refine op_andN 6 64 ?_
        refine op_orN 128 (k % 64) 6 (by decide) (by omega) ?_
        specialize "w"
        refine barr_appendN (128 + k % 64) (AHeap.set_same _ _ _) (by omega) (big _ (by simp; omega)) ?_
        rw [AHeap.set_set]
        specialize "w"
        have f := fin [224 + k / 4096, 128 + k / 64 % 64, 128 + k % 64] (by unfold enc; rw [if_neg (by omega), if_neg (by omega), if_pos (by omega)])
        simpa only [List.append_assoc, List.cons_append, List.nil_append] using f
      · specialize "w"
        refine op_shrN 18 262144 ?_
        refine op_orN 240 (k / 262144) 4 (by decide) (by omega) ?_
        specialize "w"
        refine barr_appendN (240 + k / 262144) (AHeap.set_same _ _ _) (by omega) (big _ (by omega)) ?_
        rw [AHeap.set_set]
        specialize "w"
        refine op_shrN 12 4096 ?_
        specialize "w"
        refine op_andN 6 64 ?_
        refine op_orN 128 (k / 4096 % 64) 6 (by decide) (by omega) ?_
        specialize "w"
        refine barr_appendN (128 + k / 4096 % 64) (AHeap.set_same _ _ _) (by omega) (big _ (by simp; omega)) ?_
        rw [AHeap.set_set]
        specialize "w"
        refine op_shrN 6 64 ?_
        specialize "w"
        refine op_andN 6 64 ?_
        refine op_orN 128 (k / 64 % 64) 6 (by decide) (by omega) ?_
        specialize "w"
        refine barr_appendN (128 + k / 64 % 64) (AHeap.set_same _ _ _) (by omega) (big _ (by simp; omega)) ?_
        rw [AHeap.set_set]
        specialize "w"
        refine op_andN 6 64 ?_
        refine op_orN 128 (k % 64) 6 (by decide) (by omega) ?_
        specialize "w"
        refine barr_appendN (128 + k % 64) (AHeap.set_same _ _ _) (by omega) (big _ (by simp; omega)) ?_
        rw [AHeap.set_set]
        specialize "w"
        have f := fin [240 + k / 262144, 128 + k / 4096 % 64, 128 + k / 64 % 64, 128 + k % 64] (by unfold enc; rw [if_neg (by omega), if_neg (by omega), if_neg (by omega)])
        simpa only [List.append_assoc, List.cons_append, List.nil_append] using f
  · rintro m H' ⟨cs, done, tv, cv, e, rfl, rfl, hcs⟩
    have : cs = [] := by
      cases cs with
      | nil => rfl
      | cons => cases e
    subst this
    rw [List.append_nil] at hcs
    subst hcs
    specialize "w"
    refine bytes_barr (AHeap.set_same _ _ _) (by show (encs _).length ≤ 16777216; omega) ?_
    specialize "w"
    exact ret_sub ((AHeap.Sub.refl _).new hd) h
end
section
open PySem PySem.W PyProof.Rows
set_option Elab.async false
set_option linter.unusedVariables false
set_option maxRecDepth 100000
set_option maxHeartbeats 4000000

theorem lead_enc {c : Nat} (h : c < 1114112) : ∃ b r f c0 least, enc c = b :: r ∧ leadOf b = some (f, c0, least) ∧ r.length = f ∧ (∀ x ∈ r, 128 ≤ x ∧ x < 192) ∧ cont c0 r = c ∧ least ≤ c := by
  unfold enc
  split
  · rename_i h1
    exact ⟨c, [], 0, c, 0, rfl, by unfold leadOf; rw [if_pos h1], rfl, by simp, rfl, Nat.zero_le _⟩
  rename_i h1
  split
  · rename_i h2
    refine ⟨_, _, 1, c / 64, 128, rfl, ?_, rfl, ?_, ?_, by lia⟩
    · unfold leadOf
      rw [if_neg (by lia), if_pos (by lia), show (192 + c / 64) % 32 = c / 64 by lia]
    · intro x hx; simp at hx; lia
    · show c / 64 * 64 + (128 + c % 64) % 64 = c; lia
  rename_i h2
  split
  · rename_i h3
    refine ⟨_, _, 2, c / 4096, 2048, rfl, ?_, rfl, ?_, ?_, by lia⟩
    · unfold leadOf
      rw [if_neg (by lia), if_neg (by lia), if_pos (by lia), show (224 + c / 4096) % 16 = c / 4096 by lia]
    · intro x hx; simp at hx; lia
    · show (c / 4096 * 64 + (128 + c / 64 % 64) % 64) * 64 + (128 + c % 64) % 64 = c; lia
  · rename_i h3
    refine ⟨_, _, 3, c / 262144, 65536, rfl, ?_, rfl, ?_, ?_, by lia⟩
    · unfold leadOf
      rw [if_neg (by lia), if_neg (by lia), if_neg (by lia), if_pos (by lia), show (240 + c / 262144) % 8 = c / 262144 by lia]
    · intro x hx; simp at hx; lia
    · show ((c / 262144 * 64 + (128 + c / 4096 % 64) % 64) * 64 + (128 + c / 64 % 64) % 64) * 64 + (128 + c % 64) % 64 = c; lia
def one (k : Nat) : Str := ⟨#[k]⟩
theorem glue_ones (cs : List Nat) : Txt.join (Str.ofString "") (cs.map one) = ⟨cs.toArray⟩ := by
  have e0 : (Str.ofString "").cps = #[] := by decide +kernel
  have key : ∀ (l : List Nat) (acc : Array Nat), (l.map one).foldl (fun acc p => acc ++ (Str.ofString "").cps ++ p.cps) acc = acc ++ l.toArray := by
    intro l
    induction l with
    | nil => intro acc; simp
    | cons k l ih => intro acc; rw [List.map_cons, List.foldl_cons, ih, e0]; simp [one]
  show Builtin.Str.glued _ _ = _
  unfold Builtin.Str.glued
  cases cs with
  | nil => rfl
  | cons k l =>
    rw [List.map_cons, List.drop_succ_cons, List.drop_zero, key]
    show (⟨#[k] ++ l.toArray⟩ : Str) = _
    simp
section
variable {F : FC} {c : Cx} {X : XP} {m : Loc} {H : AHeap}
theorem WE_bytesC {x : List UInt8} {k : Nat} {pos : Pos} {Q : AV → AHeap → Prop} (h : Q (.bytes (x.map UInt8.toNat)) H) : WE F c (.Constant (.bytes x) k pos) Q X m H :=
  .mk fun h₀ s y => wpC_any (Constant_bytes ⟨.bytes (x.map UInt8.toNat), H, y.toks _, ⟨fun n hn => by obtain ⟨b, _, rfl⟩ := List.mem_map.mp hn; exact b.toNat_lt, _, by
    unfold byteA; rw [List.map_map]
    congr 2
    refine (List.map_id _).symm.trans (List.map_congr_left fun b _ => ?_)
    show b = Nat.toUInt8 b.toNat
    simp⟩, h⟩)
theorem call_joinN {a : Addr} {cs : List Nat} {Q : AV → AHeap → Prop} (e : H a = some (.list (cs.map fun k => AV.str (one k)))) (hl : cs.length ≤ 1000) (h : Q (.str ⟨cs.toArray⟩) H) : WCall F c (.builtin "str.join") [.str (Str.ofString ""), .ref a] Q X m H := by
  refine call_join (ys := cs.map one) (by rw [List.map_map]; exact e) (by decide +kernel) ?_ ?_
  · have : ∀ l : List Nat, ((l.map one).map (·.length)).sum = l.length := by
      intro l
      induction l with
      | nil => rfl
      | cons k l ih => simp only [List.map_cons, List.sum_cons, List.length_cons, ih]; show 1 + l.length = _; lia
    rw [this, List.length_map]; lia
  · rw [glue_ones]; exact h
end
theorem c_text_of {F : FC} {c : Cx} {X : XP} {m : Loc} {H : AHeap} {cs : List Nat} {Q : AV → AHeap → Prop} (ok : FOk F 2) (hz : cs.length ≤ 1000) (hc : ∀ k ∈ cs, k < 1114112)
    (h : Q (.str ⟨cs.toArray⟩) H) : WCall F c (.ref 79) [.bytes (encs cs)] Q X m H := by
  have hlen := encs_length_le cs
  have hbig : (encs cs).length ≤ bigLine := by show _ ≤ 16777216; lia
  refine body_text_of ok fun c' hw => ?_
  conv => arg 3; whnf
  specialize "w"
  intro l hl
  specialize "w"
  refine WS_While (fun k m H' => ∃ (done rest : List Nat) (tv cv : Option AV), k = rest.length ∧ done ++ rest = cs ∧ m = [(Str.ofString "octets", some (.bytes (encs cs))), (Str.ofString "signs", some (.ref l)), (Str.ofString "at", some (.int ((encs done).length : Nat))), (Str.ofString "lead", tv), (Str.ofString "code", cv)] ∧
    H' = H.set l (.list (done.map fun k => AV.str (one k)))) cs.length ⟨[], cs, none, none, rfl, rfl, rfl, rfl⟩ ?_
  rintro n m H' ⟨done, rest, tv, cv, rfl, hcs, rfl, rfl⟩
  have henc : encs cs = encs done ++ encs rest := by rw [← hcs]; unfold encs; rw [List.flatMap_append]
  specialize "w"
  refine len_bytesA hbig ?_
  specialize "w"
  refine br (fun h1 => ?_) fun h1 => ?_
  · refine WF.shrink ?_
    cases rest with
    | nil => rw [henc] at h1; simp [encs] at h1
    | cons k rest =>
      have hk : k < 1114112 := hc k (by rw [← hcs]; simp)
      obtain ⟨b, r, f, c0, least, e1, e2, e3, e4, e5, e6⟩ := lead_enc hk
      have henc2 : encs cs = encs done ++ (b :: r ++ encs rest) := by rw [henc, ← e1]; rfl
      have hget : (encs cs)[(encs done).length]? = some b := by rw [henc2, List.getElem?_append_right (Nat.le_refl _)]; simp
      have hdrop : (encs cs).drop ((encs done).length + 1) = r ++ encs rest := by
        rw [henc2, List.drop_append]
        simp
      specialize "w"
      refine sub_bytes hget hbig ?_
      specialize "w"
      refine c_lead_of ⟨rfl, rfl, by decide⟩ ?_
      rw [e2]
      intro d hd
      specialize "w"
      refine ift ?_
      specialize "w"
      refine op_addN 1 ?_
      specialize "w"
      have hlr : (encs cs).length = (encs done).length + (1 + r.length) + (encs rest).length := by rw [henc2]; simp; lia
      have htk : ((encs cs).drop ((encs done).length + 1)).take f = r := by rw [hdrop, List.take_append_of_le_length (by lia), List.take_of_length_le (by lia)]
      refine c_code_at ⟨rfl, rfl, by decide⟩ hbig (AHeap.set_same _ _ _) (by lia) (by rw [htk]; exact e4) (by rw [htk]; exact e5) e6 (by lia) ?_
      specialize "w"
      refine iff' ?_
      specialize "w"
      refine chr_int (by lia) ?_
      specialize "w"
      have hld : l ≠ d := AHeap.ne_of hd (AHeap.set_same _ _ _)
      refine call_append ((AHeap.set_ne _ _ hld).trans (AHeap.set_same _ _ _)) (by rw [List.length_map]; show _ ≤ 16777216; have := congrArg List.length hcs; rw [List.length_append] at this; lia) ?_
      specialize "w"
      refine sub_tup (i := 0) ((AHeap.set_ne _ _ (Ne.symm hld)).trans (AHeap.set_same _ _ _)) rfl (Nat.zero_le _) ?_
      specialize "w"
      refine op_addN 1 ?_
      refine iop_addN (f + 1) ?_
      specialize "w"
      refine ⟨H.set l (.list ((done ++ [k]).map fun k => AV.str (one k))), ?_, ?_⟩
      · rw [List.map_append]
        exact (((AHeap.Sub.refl H).new hl).new (AHeap.set_none hd).2).set l _
      have e7 : (encs (done ++ [k])).length = (encs done).length + (f + 1) := by
        have : encs (done ++ [k]) = encs done ++ enc k := by unfold encs; rw [List.flatMap_append]; simp
        rw [this, e1, List.length_append, List.length_cons, e3]
      rw [← e7]
      exact ⟨rest.length, by simp, done ++ [k], rest, _, _, rfl, by rw [← hcs]; simp, rfl, rfl⟩
  · have : rest = [] := by
      cases rest with
      | nil => rfl
      | cons k rest =>
        have := (enc_length k).1
        rw [henc] at h1
        unfold encs at h1
        simp [List.length_append] at h1
        lia
    subst this
    rw [List.append_nil] at hcs
    subst hcs
    specialize "w"
    refine call_joinN (AHeap.set_same _ _ _) hz ?_
    specialize "w"
    exact ret_sub ((AHeap.Sub.refl _).new hl) h
end
section
open PySem PySem.W PyProof.Rows
set_option Elab.async false
set_option linter.unusedVariables false
set_option maxRecDepth 100000
set_option maxHeartbeats 4000000

def kindOf : AV → Nat
  | .int i => numType i
  | .str s => 13 + 2 * (encs s.cps.toList).length
  | .bytes b => 12 + 2 * b.length
  | _ => 0
def bodyOf : AV → List Nat
  | .int i => if numType i = 8 ∨ numType i = 9 then [] else fix (sizeOfKind (numType i)) (i % ((256 ^ sizeOfKind (numType i) : Nat) : Int)).toNat []
  | .str s => encs s.cps.toList
  | .bytes b => b
  | _ => []
def VOk : AV → Prop
  | .none => True
  | .int i => numType i ≠ 7
  | .str s => s.cps.size ≤ 11 ∧ ∀ k ∈ s.cps.toList, k < 55296 ∨ (57344 ≤ k ∧ k < 1114112)
  | .bytes b => b.length ≤ 70 ∧ ∀ n ∈ b, n < 256
  | _ => False
theorem VOk.plain {v : AV} (h : VOk v) : v.plain = true := by cases v <;> first | rfl | exact h.elim
theorem kindFrom_fits : ∀ (k j : Nat) (n : Int), kindFrom j k n = 7 ∨ (j ≤ kindFrom j k n ∧ kindFrom j k n < j + k ∧ fits (kindFrom j k n) n)
  | 0, _, _ => .inl rfl
  | k + 1, j, n => by
    show (if -((256 ^ sizeOfKind j / 2 : Nat) : Int) ≤ n ∧ n < ((256 ^ sizeOfKind j / 2 : Nat) : Int) then j else kindFrom (j + 1) k n) = 7 ∨ _
    by_cases h : -((256 ^ sizeOfKind j / 2 : Nat) : Int) ≤ n ∧ n < ((256 ^ sizeOfKind j / 2 : Nat) : Int)
    · have e : kindFrom j (k + 1) n = j := if_pos h
      rw [if_pos h, e]
      exact .inr ⟨Nat.le_refl _, by lia, h⟩
    · have e : kindFrom j (k + 1) n = kindFrom (j + 1) k n := if_neg h
      rw [if_neg h, e]
      rcases kindFrom_fits k (j + 1) n with q | ⟨q1, q2, q3⟩
      · exact .inl q
      · exact .inr ⟨by lia, by lia, q3⟩
theorem numType_cases {n : Int} (h : numType n ≠ 7) : (n = 0 ∧ numType n = 8) ∨ (n = 1 ∧ numType n = 9) ∨ (1 ≤ numType n ∧ numType n ≤ 6 ∧ fits (numType n) n) := by
  by_cases h0 : n = 0
  · exact .inl ⟨h0, by unfold numType; rw [if_pos h0]⟩
  by_cases h1 : n = 1
  · exact .inr (.inl ⟨h1, by unfold numType; rw [if_neg h0, if_pos h1]⟩)
  have e : numType n = kindFrom 1 6 n := by unfold numType; rw [if_neg h0, if_neg h1]
  rw [e] at h ⊢
  rcases kindFrom_fits 6 1 n with q | ⟨q1, q2, q3⟩
  · exact absurd q h
  · exact .inr (.inr ⟨q1, by lia, q3⟩)
theorem kindOf_ok {v : AV} (h : VOk v) : kindOf v ≠ 7 ∧ kindOf v ≠ 10 ∧ kindOf v ≠ 11 := by
  cases v with
  | int i => rcases numType_cases h with ⟨_, q⟩ | ⟨_, q⟩ | ⟨q1, q2, _⟩ <;> (show numType i ≠ 7 ∧ numType i ≠ 10 ∧ numType i ≠ 11; lia)
  | str s => refine ⟨?_, ?_, ?_⟩ <;> (show 13 + 2 * _ ≠ _; lia)
  | bytes s => refine ⟨?_, ?_, ?_⟩ <;> (show 12 + 2 * _ ≠ _; lia)
  | _ => simp [kindOf]
theorem size_ok {v : AV} (h : VOk v) : sizeOfType (kindOf v) = (bodyOf v).length := by
  cases v with
  | int i =>
    show sizeOfType (numType i) = (bodyOf (.int i)).length
    rcases numType_cases h with ⟨_, q⟩ | ⟨_, q⟩ | ⟨q1, q2, _⟩
    · rw [show bodyOf (.int i) = [] from if_pos (.inl q), q]; rfl
    · rw [show bodyOf (.int i) = [] from if_pos (.inr q), q]; rfl
    · rw [show bodyOf (.int i) = _ from if_neg (by lia), fix_length]
      unfold sizeOfType
      rw [if_neg (by lia), if_neg (by lia)]
  | str s => show (if 12 ≤ 13 + 2 * (encs s.cps.toList).length then (13 + 2 * (encs s.cps.toList).length - 12) / 2 else _) = (encs s.cps.toList).length
             rw [if_pos (by lia)]; lia
  | bytes b => show (if 12 ≤ 12 + 2 * b.length then (12 + 2 * b.length - 12) / 2 else _) = b.length
               rw [if_pos (by lia)]; lia
  | _ => rfl
theorem bodyOf_lt {v : AV} (h : VOk v) : ∀ n ∈ bodyOf v, n < 256 := by
  cases v with
  | int i =>
    by_cases q : numType i = 8 ∨ numType i = 9
    · rw [show bodyOf (.int i) = [] from if_pos q]; simp
    · rw [show bodyOf (.int i) = _ from if_neg q]; exact fix_lt _ _ _ (by simp)
  | str s => exact encs_lt fun k hk => by rcases h.2 k hk with q | q <;> lia
  | bytes b => exact h.2
  | _ => simp [bodyOf]
theorem bodyOf_length {v : AV} (h : VOk v) : (bodyOf v).length ≤ 70 := by
  cases v with
  | int i =>
    by_cases q : numType i = 8 ∨ numType i = 9
    · rw [show bodyOf (.int i) = [] from if_pos q]; simp
    · rw [show bodyOf (.int i) = _ from if_neg q, fix_length]; have := sizeOfKind_le (numType i); lia
  | str s =>
    have := encs_length_le s.cps.toList
    have h1 : s.cps.toList.length = s.cps.size := Array.length_toList
    have := h.1
    show (encs s.cps.toList).length ≤ 70; lia
  | bytes b => exact h.1
  | _ => simp [bodyOf]
theorem kindOf_lt {v : AV} (h : VOk v) : kindOf v < 1000 := by
  have hb := bodyOf_length h
  cases v with
  | int i => rcases numType_cases h with ⟨_, q⟩ | ⟨_, q⟩ | ⟨q1, q2, _⟩ <;> (show numType i < 1000; lia)
  | str s => show 13 + 2 * (encs s.cps.toList).length < 1000; have : (encs s.cps.toList).length ≤ 70 := hb; lia
  | bytes b => show 12 + 2 * b.length < 1000; have : b.length ≤ 70 := hb; lia
  | _ => simp [kindOf]
theorem cb1 : ((Str.ofString "null").cps.toList == (Str.ofString "null").cps.toList) = true := by decide +kernel
theorem cb2 : ((Str.ofString "integer").cps.toList == (Str.ofString "null").cps.toList) = false := by decide +kernel
theorem cb3 : ((Str.ofString "integer").cps.toList == (Str.ofString "integer").cps.toList) = true := by decide +kernel
theorem cb4 : ((Str.ofString "text").cps.toList == (Str.ofString "null").cps.toList) = false := by decide +kernel
theorem cb5 : ((Str.ofString "text").cps.toList == (Str.ofString "integer").cps.toList) = false := by decide +kernel
theorem cb6 : ((Str.ofString "text").cps.toList == (Str.ofString "text").cps.toList) = true := by decide +kernel
theorem cb7 : ((Str.ofString "blob").cps.toList == (Str.ofString "null").cps.toList) = false := by decide +kernel
theorem cb8 : ((Str.ofString "blob").cps.toList == (Str.ofString "integer").cps.toList) = false := by decide +kernel
theorem cb9 : ((Str.ofString "blob").cps.toList == (Str.ofString "text").cps.toList) = false := by decide +kernel
section
variable {F : FC} {c : Cx} {X : XP} {m : Loc} {H : AHeap}
theorem op_mulN' {Q : AV → AHeap → Prop} {aa bb : Int} (a b : Nat) (ha : a < 2 ^ 64) (h : Q (.int (a * b : Nat)) H) (e1 : aa = a := by rfl) (e2 : bb = b := by rfl) : WOp F c .Mult (.int aa) (.int bb) Q X m H := by
  subst e1 e2
  refine op_mul (.inl (bits_le ha)) ?_
  rw [← Int.natCast_mul]; exact h
theorem op_addL {Q : AV → AHeap → Prop} {n : Nat} {aa : Int} (a : Nat) (h : Q (.int (a + n : Nat)) H) (e : aa = a := by rfl) : WOp F c .Add (.int aa) (.int n) Q X m H := by
  subst e
  refine op_add ?_
  rw [← Int.natCast_add]; exact h
end
theorem c_serial_type {F : FC} {c : Cx} {X : XP} {m : Loc} {H : AHeap} {v : AV} {Q : AV → AHeap → Prop} (ok : FOk F 2) (hv : VOk v) (h : Q (.int (kindOf v : Nat)) H) : WCall F c (.ref 143) [v] Q X m H := by
  refine body_serial_type ok fun c' hw => ?_
  conv => arg 3; whnf
  specialize "w"
  refine c_storage_class ⟨rfl, rfl, by decide⟩ hv.plain ?_
  specialize "w"
  cases v with
  | none =>
    rw [show ((clsName AV.none).cps.toList == (Str.ofString "null").cps.toList) = true from cb1]
    specialize "w"
    exact ⟨_, .refl _, h⟩
  | int i =>
    rw [show ((clsName (AV.int i)).cps.toList == (Str.ofString "null").cps.toList) = false from cb2]
    specialize "w"
    rw [show ((clsName (AV.int i)).cps.toList == (Str.ofString "integer").cps.toList) = true from cb3]
    specialize "w"
    refine c_number_type ⟨rfl, rfl, by decide⟩ hv ?_
    specialize "w"
    exact ⟨_, .refl _, h⟩
  | str s =>
    rw [show ((clsName (AV.str s)).cps.toList == (Str.ofString "null").cps.toList) = false from cb4]
    specialize "w"
    rw [show ((clsName (AV.str s)).cps.toList == (Str.ofString "integer").cps.toList) = false from cb5]
    specialize "w"
    rw [show ((clsName (AV.str s)).cps.toList == (Str.ofString "text").cps.toList) = true from cb6]
    specialize "w"
    have hb := bodyOf_length hv
    refine c_utf8 ⟨rfl, rfl, by decide⟩ (by have := hv.1; lia) (fun k hk => by rcases hv.2 k hk with q | q <;> lia) ?_
    specialize "w"
    refine len_bytesA (by show _ ≤ 16777216; have : (encs s.cps.toList).length ≤ 70 := hb; lia) ?_
    specialize "w"
    refine op_mulN' 2 (encs s.cps.toList).length (by decide) ?_
    specialize "w"
    refine op_addL 13 ?_
    specialize "w"
    exact ⟨_, .refl _, h⟩
  | bytes b =>
    rw [show ((clsName (AV.bytes b)).cps.toList == (Str.ofString "null").cps.toList) = false from cb7]
    specialize "w"
    rw [show ((clsName (AV.bytes b)).cps.toList == (Str.ofString "integer").cps.toList) = false from cb8]
    specialize "w"
    rw [show ((clsName (AV.bytes b)).cps.toList == (Str.ofString "text").cps.toList) = false from cb9]
    specialize "w"
    have hb := hv.1
    refine len_bytesA (by show _ ≤ 16777216; lia) ?_
    specialize "w"
    refine op_mulN' 2 b.length (by decide) ?_
    specialize "w"
    refine op_addL 12 ?_
    specialize "w"
    exact ⟨_, .refl _, h⟩
  | _ => exact hv.elim
theorem c_body_of {F : FC} {c : Cx} {X : XP} {m : Loc} {H : AHeap} {v : AV} {Q : AV → AHeap → Prop} (ok : FOk F 2) (hv : VOk v) (h : Q (.bytes (bodyOf v)) H) : WCall F c (.ref 157) [v, .int (kindOf v : Nat)] Q X m H := by
  refine body_body_of ok fun c' hw => ?_
  conv => arg 3; whnf
  specialize "w"
  refine isi_any hv.plain (by simp) ?_
  specialize "w"
  cases v with
  | none =>
    refine iff' ?_
    specialize "w"
    refine isi_any rfl (by simp) ?_
    specialize "w"
    refine iff' ?_
    specialize "w"
    refine ift ?_
    specialize "w"
    refine WE_bytesC ?_
    specialize "w"
    exact ⟨_, .refl _, h⟩
  | int i =>
    refine iff' ?_
    specialize "w"
    refine isi_any rfl (by simp) ?_
    specialize "w"
    refine iff' ?_
    specialize "w"
    refine iff' ?_
    specialize "w"
    intro d hd
    specialize "w"
    refine cmp_in_tup (ns := [8, 9]) (AHeap.set_same _ _ _) ?_
    rw [show ([8, 9] : List Int).any (· == ((kindOf (AV.int i) : Nat) : Int)) = decide (numType i = 8 ∨ numType i = 9) by
      rw [Bool.eq_iff_iff]; simp [kindOf]; lia]
    refine br (fun h1 => ?_) fun h1 => ?_
    · specialize "w"
      refine WE_bytesC ?_
      specialize "w"
      rw [show bodyOf (.int i) = [] from if_pos h1] at h
      exact ret_sub ((AHeap.Sub.refl _).new hd) h
    · specialize "w"
      rw [show bodyOf (.int i) = _ from if_neg h1] at h
      rcases numType_cases hv with ⟨_, q⟩ | ⟨_, q⟩ | ⟨q1, q2, q3⟩
      · exact absurd (.inl q) h1
      · exact absurd (.inr q) h1
      have hpos : (0 : Int) < ((256 ^ sizeOfKind (numType i) : Nat) : Int) := by exact_mod_cast Nat.pow_pos (by decide)
      refine sub_sizes (i := numType i) rfl (by lia) ?_
      specialize "w"
      refine c_put_fixed ⟨rfl, rfl, by decide⟩ (sizeOfKind_le _) (Int.toNat_of_nonneg (Int.emod_nonneg _ (by lia))).symm ?_
      specialize "w"
      exact ret_sub ((AHeap.Sub.refl _).new hd) h
  | str s =>
    refine ift ?_
    specialize "w"
    refine c_utf8 ⟨rfl, rfl, by decide⟩ (by have := hv.1; lia) (fun k hk => by rcases hv.2 k hk with q | q <;> lia) ?_
    specialize "w"
    exact ⟨_, .refl _, h⟩
  | bytes b =>
    refine iff' ?_
    specialize "w"
    refine isi_any rfl (by simp) ?_
    specialize "w"
    refine ift ?_
    specialize "w"
    exact ⟨_, .refl _, h⟩
  | _ => exact hv.elim
end
section
open PySem PySem.W PyProof.Rows
set_option Elab.async false
set_option linter.unusedVariables false
set_option maxRecDepth 100000
set_option maxHeartbeats 4000000

theorem fixInt_fix {s : Nat} {i : Int} (hs : 0 < s) (h : -((256 ^ s / 2 : Nat) : Int) ≤ i ∧ i < ((256 ^ s / 2 : Nat) : Int)) : fixInt s (i % ((256 ^ s : Nat) : Int)).toNat = i := by
  obtain ⟨t, rfl⟩ : ∃ t, s = t + 1 := ⟨s - 1, by lia⟩
  have he : 256 ^ (t + 1) = 256 * 256 ^ t := by rw [Nat.pow_succ, Nat.mul_comm]
  have hp : 0 < 256 ^ t := Nat.pow_pos (by decide)
  unfold fixInt
  generalize hM : 256 ^ (t + 1) = M at h ⊢
  rw [hM] at he
  have hM2 : M = 2 * (M / 2) := by lia
  by_cases h0 : 0 ≤ i
  · rw [Int.emod_eq_of_lt h0 (by lia), if_neg (by lia)]
    lia
  · have e : i % (M : Int) = i + M := by
      rw [← Int.add_emod_right, Int.emod_eq_of_lt (by lia) (by lia)]
    rw [e, if_pos (by lia)]
    lia
theorem c_value_of {F : FC} {c : Cx} {X : XP} {m : Loc} {H : AHeap} {v : AV} {ns rest : List Nat} {a : Nat} {Q : AV → AHeap → Prop} (ok : FOk F 3) (hv : VOk v) (hz : ns.length ≤ bigLine) (hb : ∀ n ∈ ns, n < 256) (ha : a ≤ ns.length) (hd : ns.drop a = bodyOf v ++ rest)
    (h : Q v H) : WCall F c (.ref 164) [.bytes ns, .int (a : Nat), .int (kindOf v : Nat)] Q X m H := by
  have hlen : a + (bodyOf v).length ≤ ns.length := by
    have := congrArg List.length hd
    rw [List.length_drop, List.length_append] at this; lia
  have htk : (ns.drop a).take (bodyOf v).length = bodyOf v := by rw [hd, List.take_append_of_le_length (Nat.le_refl _), List.take_of_length_le (Nat.le_refl _)]
  refine body_value_of ok fun c' hw => ?_
  conv => arg 3; whnf
  specialize "w"
  refine c_serial_size ⟨rfl, rfl, by decide⟩ (kindOf_ok hv) ?_
  rw [size_ok hv]
  specialize "w"
  refine op_addN (bodyOf v).length ?_
  specialize "w"
  refine len_bytesA hz ?_
  specialize "w"
  refine br (fun q => ?_) fun q => ?_
  · lia
  specialize "w"
  refine breq (fun h0 => ?_) fun h0 => ?_
  · specialize "w"
    have : v = .none := by
      cases v with
      | none => rfl
      | int i => exfalso; rcases numType_cases hv with ⟨_, q⟩ | ⟨_, q⟩ | ⟨q1, q2, _⟩ <;> (have e : kindOf (.int i) = numType i := rfl; rw [e] at h0; lia)
      | str s => exfalso; have e : kindOf (.str s) = 13 + 2 * (encs s.cps.toList).length := rfl; rw [e] at h0; lia
      | bytes s => exfalso; have e : kindOf (.bytes s) = 12 + 2 * s.length := rfl; rw [e] at h0; lia
      | _ => exact hv.elim
    subst this
    exact ⟨_, .refl _, h⟩
  specialize "w"
  refine breq (fun h8 => ?_) fun h8 => ?_
  · specialize "w"
    have : v = .int 0 := by
      cases v with
      | none => exact absurd h8 (by decide)
      | int i =>
        have e : kindOf (.int i) = numType i := rfl
        rw [e] at h8
        rcases numType_cases hv with ⟨q0, q⟩ | ⟨_, q⟩ | ⟨q1, q2, _⟩
        · rw [q0]
        · lia
        · lia
      | str s => exfalso; have e : kindOf (.str s) = 13 + 2 * (encs s.cps.toList).length := rfl; rw [e] at h8; lia
      | bytes s => exfalso; have e : kindOf (.bytes s) = 12 + 2 * s.length := rfl; rw [e] at h8; lia
      | _ => exact hv.elim
    subst this
    exact ⟨_, .refl _, h⟩
  specialize "w"
  refine breq (fun h9 => ?_) fun h9 => ?_
  · specialize "w"
    have : v = .int 1 := by
      cases v with
      | none => exact absurd h9 (by decide)
      | int i =>
        have e : kindOf (.int i) = numType i := rfl
        rw [e] at h9
        rcases numType_cases hv with ⟨q0, q⟩ | ⟨q0, q⟩ | ⟨q1, q2, _⟩
        · lia
        · rw [q0]
        · lia
      | str s => exfalso; have e : kindOf (.str s) = 13 + 2 * (encs s.cps.toList).length := rfl; rw [e] at h9; lia
      | bytes s => exfalso; have e : kindOf (.bytes s) = 12 + 2 * s.length := rfl; rw [e] at h9; lia
      | _ => exact hv.elim
    subst this
    exact ⟨_, .refl _, h⟩
  specialize "w"
  refine br (fun h12 => ?_) fun h12 => ?_
  · specialize "w"
    cases v with
    | int i =>
      have e : kindOf (.int i) = numType i := rfl
      rw [e] at h0 h8 h9 h12
      rcases numType_cases hv with ⟨q0, q⟩ | ⟨q0, q⟩ | ⟨q1, q2, q3⟩
      · lia
      · lia
      have eb : bodyOf (.int i) = fix (sizeOfKind (numType i)) (i % ((256 ^ sizeOfKind (numType i) : Nat) : Int)).toNat [] := if_neg (by lia)
      have el : (bodyOf (.int i)).length = sizeOfKind (numType i) := by rw [eb, fix_length]
      have hpos : (0 : Int) < ((256 ^ sizeOfKind (numType i) : Nat) : Int) := by exact_mod_cast Nat.pow_pos (by decide)
      have hs0 : 0 < sizeOfKind (numType i) := by
        generalize numType i = k at q1 q2
        match k, q1, q2 with
        | 1, _, _ => decide
        | 2, _, _ => decide
        | 3, _, _ => decide
        | 4, _, _ => decide
        | 5, _, _ => decide
        | 6, _, _ => decide
      refine c_get_fixed ⟨rfl, rfl, by decide⟩ hz hb (by rw [el]; exact sizeOfKind_le _) hlen ?_
      rw [htk, el, eb, unfix_fix _ _ (by
        have := Int.emod_lt_of_pos i hpos
        have h2 := Int.emod_nonneg i (show ((256 ^ sizeOfKind (numType i) : Nat) : Int) ≠ 0 by lia)
        lia), fixInt_fix hs0 q3]
      specialize "w"
      exact ⟨_, .refl _, h⟩
    | none => exact absurd rfl h0
    | str s => exfalso; have e : kindOf (.str s) = 13 + 2 * (encs s.cps.toList).length := rfl; rw [e] at h12; lia
    | bytes s => exfalso; have e : kindOf (.bytes s) = 12 + 2 * s.length := rfl; rw [e] at h12; lia
    | _ => exact hv.elim
  specialize "w"
  refine op_addN (bodyOf v).length ?_
  refine ⟨ns, a, a + (bodyOf v).length, rfl, rfl, rfl, hz, by lia, hlen, ?_⟩
  rw [Nat.add_sub_cancel_left, htk]
  specialize "w"
  refine bytes_bytes ?_
  specialize "w"
  refine op_modN 2 (by decide) ?_
  specialize "w"
  cases v with
  | str s =>
    have e : kindOf (.str s) = 13 + 2 * (encs s.cps.toList).length := rfl
    refine breq (fun hm => ?_) fun hm => ?_
    · specialize "w"
      refine c_text_of ⟨rfl, rfl, by decide⟩ (by have := hv.1; rw [Array.length_toList]; lia) (fun k hk => by rcases hv.2 k hk with q | q <;> lia) ?_
      specialize "w"
      exact ⟨_, .refl _, h⟩
    · rw [e] at hm; lia
  | bytes s =>
    have e : kindOf (.bytes s) = 12 + 2 * s.length := rfl
    refine breq (fun hm => ?_) fun hm => ?_
    · rw [e] at hm; lia
    · specialize "w"
      exact ⟨_, .refl _, h⟩
  | none => exact absurd rfl h0
  | int i =>
    exfalso
    have e : kindOf (.int i) = numType i := rfl
    rw [e] at h0 h8 h9 h12
    rcases numType_cases hv with ⟨q0, q⟩ | ⟨q0, q⟩ | ⟨q1, q2, q3⟩ <;> lia
  | _ => exact hv.elim
def headSize (many : Nat) : Nat := if many + 1 < 128 then many + 1 else many + 2
theorem headSize_len {many : Nat} (h : many < 16000) : headSize many = many + (varint (headSize many)).length := by
  unfold headSize
  split
  · rename_i q; rw [varint_one q]; rfl
  · rename_i q; rw [varint_two (by lia) (by lia)]
theorem c_head_size {F : FC} {c : Cx} {X : XP} {m : Loc} {H : AHeap} {many : Nat} {Q : AV → AHeap → Prop} (ok : FOk F 2) (hm : many < 16000)
    (h : Q (.int (headSize many : Nat)) H) : WCall F c (.ref 171) [.int (many : Nat)] Q X m H := by
  unfold headSize at h
  refine body_head_size ok fun c' hw => ?_
  conv => arg 3; whnf
  specialize "w"
  refine WS_While (fun k m H' => ∃ own, k + own = 2 ∧ 1 ≤ own ∧ (own = 2 → 128 ≤ many + 1) ∧ m = [(Str.ofString "many", some (.int (many : Nat))), (Str.ofString "own", some (.int (own : Nat)))] ∧ H' = H) 1 ⟨1, rfl, by lia, by lia, rfl, rfl⟩ ?_
  rintro k m H' ⟨own, hk, ho, ho2, rfl, rfl⟩
  specialize "w"
  refine op_addN own ?_
  specialize "w"
  refine c_put_varint (N := many + own) ⟨rfl, rfl, by decide⟩ (by lia) ?_
  specialize "w"
  refine len_bytesA (by have := varint_length_le (many + own); show _ ≤ 16777216; lia) ?_
  specialize "w"
  have hcase : (own = 1 ∧ many + 1 < 128 ∧ (varint (many + own)).length = 1) ∨ (own = 1 ∧ 128 ≤ many + 1 ∧ (varint (many + own)).length = 2) ∨ (own = 2 ∧ 128 ≤ many + 1 ∧ (varint (many + own)).length = 2) := by
    by_cases q : own = 1
    · by_cases q2 : many + 1 < 128
      · exact .inl ⟨q, q2, by rw [q, varint_one q2]; rfl⟩
      · exact .inr (.inl ⟨q, by lia, by rw [q, varint_two (by lia) (by lia)]⟩)
    · have : own = 2 := by lia
      exact .inr (.inr ⟨this, ho2 this, by rw [this, varint_two (by have := ho2 this; lia) (by lia)]⟩)
  refine brne (fun hc => ?_) fun hc => ?_
  · specialize "w"
    refine iop_addN 1 ?_
    specialize "w"
    refine ⟨k - 1, by lia, own + 1, by lia, by lia, fun _ => by lia, rfl, rfl⟩
  · specialize "w"
    refine op_addN own ?_
    specialize "w"
    rcases hcase with ⟨q1, q2, q3⟩ | ⟨q1, q2, q3⟩ | ⟨q1, q2, q3⟩
    · rw [if_pos q2] at h; rw [q1]; exact ⟨_, .refl _, h⟩
    · rw [q3, q1] at hc; lia
    · rw [if_neg (by lia)] at h; rw [q1]; exact ⟨_, .refl _, h⟩
end
section
open PySem PySem.W PyProof.Rows
set_option Elab.async false
set_option linter.unusedVariables false
set_option maxRecDepth 100000
set_option maxHeartbeats 4000000

def recT (vs : List AV) : List Nat := vs.flatMap fun v => varint (kindOf v)
def recB (vs : List AV) : List Nat := vs.flatMap bodyOf
def record (vs : List AV) : List Nat := varint (headSize (recT vs).length) ++ recT vs ++ recB vs
theorem recT_length : ∀ vs : List AV, (recT vs).length ≤ 9 * vs.length
  | [] => Nat.le_refl _
  | v :: vs => by
    have := recT_length vs
    have := varint_length_le (kindOf v)
    show (varint (kindOf v) ++ recT vs).length ≤ _
    rw [List.length_append, List.length_cons]; lia
theorem recB_length : ∀ vs : List AV, (∀ v ∈ vs, VOk v) → (recB vs).length ≤ 70 * vs.length
  | [], _ => Nat.le_refl _
  | v :: vs, h => by
    have := recB_length vs fun w hw => h w (List.mem_cons_of_mem _ hw)
    have := bodyOf_length (h v List.mem_cons_self)
    show (bodyOf v ++ recB vs).length ≤ _
    rw [List.length_append, List.length_cons]; lia
theorem recT_lt (vs : List AV) : ∀ n ∈ recT vs, n < 256 := by
  intro n hn
  obtain ⟨v, _, hn⟩ := List.mem_flatMap.mp hn
  exact varint_lt _ n hn
theorem recB_lt {vs : List AV} (h : ∀ v ∈ vs, VOk v) : ∀ n ∈ recB vs, n < 256 := by
  intro n hn
  obtain ⟨v, hv, hn⟩ := List.mem_flatMap.mp hn
  exact bodyOf_lt (h v hv) n hn
theorem record_lt {vs : List AV} (h : ∀ v ∈ vs, VOk v) : ∀ n ∈ record vs, n < 256 := by
  intro n hn
  rcases List.mem_append.mp hn with q | q
  · rcases List.mem_append.mp q with q | q
    · exact varint_lt _ n q
    · exact recT_lt _ n q
  · exact recB_lt h n q
structure Row (vs : List AV) : Prop where
  ok : ∀ v ∈ vs, VOk v
  len : vs.length ≤ 129
theorem Row.t {vs : List AV} (r : Row vs) : (recT vs).length ≤ 1161 := by have := recT_length vs; have := r.len; lia
theorem Row.b {vs : List AV} (r : Row vs) : (recB vs).length ≤ 9030 := by have := recB_length vs r.ok; have := r.len; lia
theorem Row.z {vs : List AV} (r : Row vs) : (record vs).length ≤ bigLine := by
  have := r.t; have := r.b; have := varint_length_le (headSize (recT vs).length)
  unfold record
  rw [List.length_append, List.length_append]
  show _ ≤ 16777216
  lia
theorem AHeap.set4 (H : AHeap) {t b : Addr} (h : t ≠ b) (A B A' B' : AObj) : (((H.set t A).set b B).set t A').set b B' = (H.set t A').set b B' := by
  funext x
  by_cases q1 : x = b
  · subst q1; rw [AHeap.set_same, AHeap.set_same]
  · rw [AHeap.set_ne _ _ q1, AHeap.set_ne _ _ q1]
    by_cases q2 : x = t
    · subst q2; rw [AHeap.set_same, AHeap.set_same]
    · rw [AHeap.set_ne _ _ q2, AHeap.set_ne _ _ q2, AHeap.set_ne _ _ q1, AHeap.set_ne _ _ q2]
theorem c_encode_record {F : FC} {c : Cx} {X : XP} {m : Loc} {H : AHeap} {a : Addr} {vs : List AV} {Q : AV → AHeap → Prop} (ok : FOk F 3) (e : H a = some (.list vs)) (r : Row vs)
    (h : Q (.bytes (record vs)) H) : WCall F c (.ref 178) [.ref a] Q X m H := by
  refine body_encode_record ok fun c' hw => ?_
  conv => arg 3; whnf
  specialize "w"
  refine barr_new fun t ht => ?_
  specialize "w"
  refine barr_new fun b hb => ?_
  have hta : t ≠ a := fun q => by rw [← q, ht] at e; cases e
  have hba : b ≠ a := fun q => by have := (AHeap.set_none hb).2; rw [q] at this; rw [this] at e; cases e
  have htb : t ≠ b := AHeap.ne_of hb (AHeap.set_same _ _ _)
  specialize "w"
  refine WS_For ?_
  specialize "w"
  refine ⟨_, _, _, .list (xs := vs) ((AHeap.set_ne _ _ (Ne.symm hba)).trans ((AHeap.set_ne _ _ (Ne.symm hta)).trans e)), .refl _, ?_⟩
  refine WLoop_ind asgN_mono (fun rs m H' => ∃ (done : List AV) (tv kv : Option AV), done ++ rs = vs ∧ m = [(Str.ofString "values", some (.ref a)), (Str.ofString "types", some (.ref t)), (Str.ofString "bodies", some (.ref b)), (Str.ofString "v", tv), (Str.ofString "kind", kv)] ∧
    H' = (H.set t (.barr (recT done))).set b (.barr (recB done))) ?_ ?_ ?_ ⟨[], none, none, rfl, rfl, rfl⟩
  · rintro rs m H' ⟨done, tv, kv, hds, rfl, rfl⟩
    exact (AHeap.set_ne _ _ (Ne.symm hba)).trans ((AHeap.set_ne _ _ (Ne.symm hta)).trans e)
  · rintro v rs m H' ⟨done, tv, kv, hds, rfl, rfl⟩
    have hv : VOk v := r.ok v (by rw [← hds]; simp)
    have hdl : done.length ≤ 129 := by have := congrArg List.length hds; rw [List.length_append] at this; have := r.len; lia
    have h1 := recT_length done
    have h2 := recB_length done fun w hw => r.ok w (by rw [← hds]; simp [hw])
    have h3 := varint_length_le (kindOf v)
    have h4 := bodyOf_length hv
    have h5 := kindOf_lt hv
    specialize "w"
    refine c_serial_type ⟨rfl, rfl, by decide⟩ hv ?_
    specialize "w"
    refine c_put_varint (N := kindOf v) ⟨rfl, rfl, by decide⟩ (by lia) ?_
    specialize "w"
    refine barr_extend ((AHeap.set_ne _ _ htb).trans (AHeap.set_same _ _ _)) (by show _ ≤ 16777216; lia) ?_
    specialize "w"
    refine c_body_of ⟨rfl, rfl, by decide⟩ hv ?_
    specialize "w"
    refine barr_extend ((AHeap.set_ne _ _ (Ne.symm htb)).trans (AHeap.set_same _ _ _)) (by show _ ≤ 16777216; lia) ?_
    specialize "w"
    refine ⟨done ++ [v], _, _, by rw [← hds]; simp, rfl, ?_⟩
    rw [show recT (done ++ [v]) = recT done ++ varint (kindOf v) by unfold recT; rw [List.flatMap_append]; simp, show recB (done ++ [v]) = recB done ++ bodyOf v by unfold recB; rw [List.flatMap_append]; simp]
    exact AHeap.set4 H htb _ _ _ _
  · rintro m H' ⟨done, tv, kv, hds, rfl, rfl⟩
    rw [List.append_nil] at hds
    subst hds
    have h1 := r.t
    have h2 := r.b
    have h3 := varint_length_le (headSize (recT done).length)
    have e1 := (AHeap.set_ne (H.set t (.barr (recT done))) (.barr (recB done)) htb).trans (AHeap.set_same H t (.barr (recT done)))
    specialize "w"
    refine len_barr e1 (by show _ ≤ 16777216; lia) ?_
    specialize "w"
    refine c_head_size ⟨rfl, rfl, by decide⟩ (by lia) ?_
    specialize "w"
    refine c_put_varint (N := headSize (recT done).length) ⟨rfl, rfl, by decide⟩ (by have : headSize (recT done).length ≤ (recT done).length + 2 := by unfold headSize; split <;> lia
                                                                                     lia) ?_
    specialize "w"
    refine bytes_barr e1 (by show _ ≤ 16777216; lia) ?_
    specialize "w"
    refine add_bytesA (by show _ ≤ 16777216; lia) ?_
    specialize "w"
    refine bytes_barr (AHeap.set_same _ _ _) (by show _ ≤ 16777216; lia) ?_
    specialize "w"
    refine add_bytesA (by rw [List.length_append]; show _ ≤ 16777216; lia) ?_
    specialize "w"
    exact ret_sub (((AHeap.Sub.refl _).new ht).new (AHeap.set_none hb).2) h
theorem recT_split {done rest : List AV} : recT (done ++ rest) = recT done ++ recT rest := List.flatMap_append
theorem recB_split {done rest : List AV} : recB (done ++ rest) = recB done ++ recB rest := List.flatMap_append
theorem drop_pre {xs ys : List Nat} {n : Nat} (h : n = xs.length) : (xs ++ ys).drop n = ys := by rw [h, List.drop_append]; simp
/-- where a kind is read -/
theorem read_kind {done rest : List AV} {v : AV} (h : kindOf v < 1000) (vs : List AV) (e : vs = done ++ v :: rest) (n : Nat) (hn : n = (varint (headSize (recT vs).length)).length + (recT done).length) :
    getV 9 0 ((record vs).drop n) n = some (kindOf v, n + (varint (kindOf v)).length) := by
  have : record vs = (varint (headSize (recT vs).length) ++ recT done) ++ (varint (kindOf v) ++ (recT rest ++ recB vs)) := by
    unfold record
    rw [show recT vs = recT done ++ (varint (kindOf v) ++ recT rest) by rw [e, recT_split]; rfl]
    simp only [List.append_assoc]
  rw [this, drop_pre (by rw [List.length_append]; exact hn)]
  exact getV_varint (by lia) _ _
theorem read_head {vs : List AV} (r : Row vs) : getV 9 0 ((record vs).drop 0) 0 = some (headSize (recT vs).length, (varint (headSize (recT vs).length)).length) := by
  rw [List.drop_zero]
  unfold record
  rw [List.append_assoc, getV_varint (by have := r.t; unfold headSize; split <;> lia)]
  simp
theorem record_length {vs : List AV} (r : Row vs) : (record vs).length = headSize (recT vs).length + (recB vs).length := by
  have := headSize_len (many := (recT vs).length) (by have := r.t; lia)
  unfold record
  rw [List.length_append, List.length_append]
  lia
/-- where a value is read -/
theorem read_body {done rest : List AV} {v : AV} {vs : List AV} (r : Row vs) (e : vs = done ++ v :: rest) (n : Nat) (hn : n = headSize (recT vs).length + (recB done).length) : (record vs).drop n = bodyOf v ++ recB rest ∧ n ≤ (record vs).length := by
  have hh := headSize_len (many := (recT vs).length) (by have := r.t; lia)
  have h1 : record vs = (varint (headSize (recT vs).length) ++ recT vs ++ recB done) ++ (bodyOf v ++ recB rest) := by
    unfold record
    rw [show recB vs = recB done ++ (bodyOf v ++ recB rest) by rw [e, recB_split]; rfl]
    simp only [List.append_assoc]
  constructor
  · rw [h1, drop_pre (by rw [List.length_append, List.length_append]; lia)]
  · rw [h1, List.length_append, List.length_append, List.length_append]; lia
theorem c_head_of {F : FC} {c : Cx} {X : XP} {m : Loc} {H : AHeap} {vs : List AV} {Q : AV → AHeap → Prop} (ok : FOk F 2) (r : Row vs)
    (h : ∀ l d, H l = none → H d = none → l ≠ d → Q (.ref d) ((H.set l (.list (nints (vs.map kindOf)))).set d (.tuple [.ref l, .int (headSize (recT vs).length : Nat)]))) : WCall F c (.ref 185) [.bytes (record vs)] Q X m H := by
  have hh := headSize_len (many := (recT vs).length) (by have := r.t; lia)
  have hrl := record_length r
  have hz := r.z
  have hb := record_lt r.ok
  generalize hE : headSize (recT vs).length = E at h hh hrl
  refine body_head_of ok fun c' hw => ?_
  conv => arg 3; whnf
  specialize "w"
  refine WS_AssignT2 ?_
  specialize "w"
  refine c_get_varint (a := 0) (v := E) (e := (varint E).length) ⟨rfl, rfl, by decide⟩ hz hb (by have := read_head r; rw [hE] at this; exact this) fun d hd => ?_
  refine ⟨_, _, .tuple (AHeap.set_same _ _ _), ?_⟩
  specialize "S"
  specialize "S"
  specialize "S"
  refine WF.weak ((AHeap.Sub.refl _).new hd) ?_
  specialize "w"
  refine len_bytesA hz ?_
  specialize "w"
  refine br (fun q => ?_) fun q => ?_
  · lia
  specialize "w"
  refine br (fun q => ?_) fun q => ?_
  · lia
  specialize "w"
  intro l hl
  specialize "w"
  refine WS_While (fun k m H' => ∃ (done rest : List AV) (kv : Option AV), k = rest.length ∧ done ++ rest = vs ∧ m = [(Str.ofString "octets", some (.bytes (record vs))), (Str.ofString "end", some (.int (E : Nat))), (Str.ofString "at", some (.int ((varint E).length + (recT done).length : Nat))), (Str.ofString "types", some (.ref l)), (Str.ofString "kind", kv)] ∧
    H' = H.set l (.list (nints (done.map kindOf)))) vs.length ⟨[], vs, none, rfl, rfl, rfl, rfl⟩ ?_
  rintro k m H' ⟨done, rest, kv, rfl, hds, rfl, rfl⟩
  have hsum : (recT vs).length = (recT done).length + (recT rest).length := by rw [← hds, recT_split, List.length_append]
  specialize "w"
  refine br (fun q => ?_) fun q => ?_
  · refine WF.shrink ?_
    cases rest with
    | nil => exfalso; have : (recT ([] : List AV)).length = 0 := rfl; lia
    | cons v rest =>
      have hv : VOk v := r.ok v (by rw [← hds]; simp)
      specialize "w"
      refine WS_AssignT2 ?_
      specialize "w"
      have hdl : done.length ≤ 129 := by have := congrArg List.length hds; rw [List.length_append] at this; have := r.len; lia
      refine c_get_varint ⟨rfl, rfl, by decide⟩ hz hb (read_kind (kindOf_lt hv) vs hds.symm _ (by rw [hE])) fun d' hd' => ?_
      refine ⟨_, _, .tuple (AHeap.set_same _ _ _), ?_⟩
      specialize "w"
      have hld : l ≠ d' := AHeap.ne_of hd' (AHeap.set_same _ _ _)
      refine call_appendN (kindOf v) ((AHeap.set_ne _ _ hld).trans (AHeap.set_same _ _ _)) (by rw [List.length_map]; show _ ≤ 16777216; lia) ?_
      specialize "w"
      refine ⟨H.set l (.list (nints ((done ++ [v]).map kindOf))), ?_, ?_⟩
      · rw [List.map_append]
        exact (((AHeap.Sub.refl H).new hl).new (AHeap.set_none hd').2).set l _
      have e7 : (varint E).length + (recT done).length + (varint (kindOf v)).length = (varint E).length + (recT (done ++ [v])).length := by
        rw [recT_split, List.length_append, show recT [v] = varint (kindOf v) by unfold recT; simp]; lia
      rw [e7]
      exact ⟨rest.length, by simp, done ++ [v], rest, _, rfl, by rw [← hds]; simp, rfl, rfl⟩
  · have hre : rest = [] := by
      cases rest with
      | nil => rfl
      | cons v rest =>
        have := varint_length_pos (kindOf v)
        have h2 : recT (v :: rest) = varint (kindOf v) ++ recT rest := rfl
        rw [h2, List.length_append] at hsum
        lia
    subst hre
    rw [List.append_nil] at hds
    subst hds
    specialize "w"
    refine brne (fun q2 => ?_) fun q2 => ?_
    · have : (recT ([] : List AV)).length = 0 := rfl; lia
    specialize "w"
    intro d2 hd2
    specialize "w"
    exact ⟨_, .refl _, h l d2 hl (AHeap.set_none hd2).2 (AHeap.ne_of hd2 (AHeap.set_same _ _ _))⟩
end
section
open PySem PySem.W PyProof.Rows
set_option Elab.async false
set_option linter.unusedVariables false
set_option maxRecDepth 100000
set_option maxHeartbeats 4000000

theorem c_decode_record {F : FC} {c : Cx} {X : XP} {m : Loc} {H : AHeap} {vs : List AV} {Q : AV → AHeap → Prop} (ok : FOk F 4) (r : Row vs)
    (h : ∀ l, H l = none → Q (.ref l) (H.set l (.list vs))) : WCall F c (.ref 192) [.bytes (record vs)] Q X m H := by
  have hrl := record_length r
  have hz := r.z
  have hb := record_lt r.ok
  generalize hE : headSize (recT vs).length = E at hrl
  refine body_decode_record ok fun c' hw => ?_
  conv => arg 3; whnf
  specialize "w"
  refine WS_AssignT2 ?_
  specialize "w"
  refine c_head_of ⟨rfl, rfl, by decide⟩ r fun t d ht hd htd => ?_
  rw [hE]
  refine ⟨_, _, .tuple (AHeap.set_same _ _ _), ?_⟩
  specialize "S"
  specialize "S"
  specialize "S"
  refine WF.weak (H' := H.set t (.list (nints (vs.map kindOf)))) ((AHeap.Sub.refl _).new ((AHeap.set_ne _ _ (Ne.symm htd)).trans hd)) ?_
  specialize "w"
  intro l hl
  specialize "w"
  have hlt : t ≠ l := AHeap.ne_of hl (AHeap.set_same _ _ _)
  refine WS_For ?_
  specialize "w"
  refine ⟨_, _, _, .list (xs := nints (vs.map kindOf)) ((AHeap.set_ne _ _ hlt).trans (AHeap.set_same _ _ _)), .refl _, ?_⟩
  refine WLoop_ind asgN_mono (fun rs m H' => ∃ (done rest : List AV) (kv : Option AV), rs = nints (rest.map kindOf) ∧ done ++ rest = vs ∧ m = [(Str.ofString "octets", some (.bytes (record vs))), (Str.ofString "types", some (.ref t)), (Str.ofString "at", some (.int (E + (recB done).length : Nat))), (Str.ofString "values", some (.ref l)), (Str.ofString "kind", kv)] ∧
    H' = (H.set t (.list (nints (vs.map kindOf)))).set l (.list done)) ?_ ?_ ?_ ⟨[], vs, none, rfl, rfl, rfl, rfl⟩
  · rintro rs m H' ⟨done, rest, kv, rfl, hds, rfl, rfl⟩
    exact (AHeap.set_ne _ _ hlt).trans (AHeap.set_same _ _ _)
  · rintro w rs m H' ⟨done, rest, kv, hrs, hds, rfl, rfl⟩
    cases rest with
    | nil => cases hrs
    | cons v rest =>
      injection hrs with h1 h2
      subst h1 h2
      have hv : VOk v := r.ok v (by rw [← hds]; simp)
      have hdl : done.length ≤ 129 := by have := congrArg List.length hds; rw [List.length_append] at this; have := r.len; lia
      obtain ⟨hrd, hle⟩ := read_body r hds.symm (E + (recB done).length) (by rw [hE])
      specialize "w"
      refine c_value_of ⟨rfl, rfl, by decide⟩ hv hz hb hle hrd ?_
      specialize "w"
      refine call_append (AHeap.set_same _ _ _) (by show _ ≤ 16777216; lia) ?_
      rw [AHeap.set_set]
      specialize "w"
      refine c_serial_size ⟨rfl, rfl, by decide⟩ (kindOf_ok hv) ?_
      rw [size_ok hv]
      refine iop_addN (bodyOf v).length ?_
      specialize "w"
      have e7 : E + (recB done).length + (bodyOf v).length = E + (recB (done ++ [v])).length := by
        rw [recB_split, List.length_append, show recB [v] = bodyOf v by unfold recB; simp]; lia
      rw [e7]
      exact ⟨done ++ [v], rest, _, rfl, by rw [← hds]; simp, rfl, rfl⟩
  · rintro m H' ⟨done, rest, kv, hrs, hds, rfl, rfl⟩
    have hre : rest = [] := by
      cases rest with
      | nil => rfl
      | cons v rest => cases hrs
    subst hre
    rw [List.append_nil] at hds
    subst hds
    specialize "w"
    refine len_bytesA hz ?_
    specialize "w"
    refine brne (fun q => ?_) fun q => ?_
    · lia
    specialize "w"
    exact ret_sub (((AHeap.Sub.refl H).new ht).set l _) (h l (AHeap.set_none hl).2)
theorem c_record_column {F : FC} {c : Cx} {X : XP} {m : Loc} {H : AHeap} {vs : List AV} {i : Nat} {Q : AV → AHeap → Prop} (ok : FOk F 4) (r : Row vs)
    (h : Q ((vs[i]?).getD .none) H) : WCall F c (.ref 199) [.bytes (record vs), .int (i : Nat)] Q X m H := by
  have hh := headSize_len (many := (recT vs).length) (by have := r.t; lia)
  have hrl := record_length r
  have hz := r.z
  have hb := record_lt r.ok
  generalize hE : headSize (recT vs).length = E at hrl hh
  refine body_record_column ok fun c' hw => ?_
  conv => arg 3; whnf
  specialize "w"
  refine WS_AssignT2 ?_
  specialize "w"
  refine c_get_varint (a := 0) (v := E) (e := (varint E).length) ⟨rfl, rfl, by decide⟩ hz hb (by have := read_head r; rw [hE] at this; exact this) fun d hd => ?_
  refine ⟨_, _, .tuple (AHeap.set_same _ _ _), ?_⟩
  specialize "S"
  specialize "S"
  specialize "S"
  refine WF.weak ((AHeap.Sub.refl _).new hd) ?_
  specialize "w"
  refine len_bytesA hz ?_
  specialize "w"
  refine br (fun q => ?_) fun q => ?_
  · lia
  specialize "w"
  refine br (fun q => ?_) fun q => ?_
  · lia
  specialize "w"
  refine WS_While (fun k m H' => ∃ (done rest : List AV) (kv : Option AV), k = rest.length ∧ done ++ rest = vs ∧ done.length ≤ i ∧ m = [(Str.ofString "octets", some (.bytes (record vs))), (Str.ofString "i", some (.int (i : Nat))), (Str.ofString "end", some (.int (E : Nat))), (Str.ofString "place", some (.int ((varint E).length + (recT done).length : Nat))),
      (Str.ofString "at", some (.int (E + (recB done).length : Nat))), (Str.ofString "column", some (.int (done.length : Nat))), (Str.ofString "kind", kv)] ∧ H' = H) vs.length ⟨[], vs, none, rfl, rfl, Nat.zero_le _, rfl, rfl⟩ ?_
  rintro k m H' ⟨done, rest, kv, rfl, hds, hdi, rfl, rfl⟩
  have hsum : (recT vs).length = (recT done).length + (recT rest).length := by rw [← hds, recT_split, List.length_append]
  specialize "w"
  refine br (fun q => ?_) fun q => ?_
  · refine WF.shrink ?_
    cases rest with
    | nil => exfalso; have : (recT ([] : List AV)).length = 0 := rfl; lia
    | cons v rest =>
      have hv : VOk v := r.ok v (by rw [← hds]; simp)
      obtain ⟨hrd, hle⟩ := read_body r hds.symm (E + (recB done).length) (by rw [hE])
      specialize "w"
      refine WS_AssignT2 ?_
      specialize "w"
      refine c_get_varint ⟨rfl, rfl, by decide⟩ hz hb (read_kind (kindOf_lt hv) vs hds.symm _ (by rw [hE])) fun d' hd' => ?_
      refine ⟨_, _, .tuple (AHeap.set_same _ _ _), ?_⟩
      specialize "S"
      specialize "S"
      specialize "S"
      refine WF.weak ((AHeap.Sub.refl _).new hd') ?_
      specialize "w"
      refine breq (fun q2 => ?_) fun q2 => ?_
      · specialize "w"
        refine c_value_of ⟨rfl, rfl, by decide⟩ hv hz hb hle hrd ?_
        have e8 : (vs[i]?).getD .none = v := by
          have : done.length = i := by lia
          rw [← hds, ← this, List.getElem?_append_right (Nat.le_refl _)]; simp
        rw [e8] at h
        specialize "w"
        exact ⟨_, .refl _, _, .refl _, h⟩
      · specialize "w"
        refine c_serial_size ⟨rfl, rfl, by decide⟩ (kindOf_ok hv) ?_
        rw [size_ok hv]
        refine iop_addN (bodyOf v).length ?_
        specialize "w"
        refine iop_addN 1 ?_
        specialize "w"
        refine ⟨H', .refl _, ?_⟩
        have e7 : E + (recB done).length + (bodyOf v).length = E + (recB (done ++ [v])).length := by
          rw [recB_split, List.length_append, show recB [v] = bodyOf v by unfold recB; simp]; lia
        have e8 : (varint E).length + (recT done).length + (varint (kindOf v)).length = (varint E).length + (recT (done ++ [v])).length := by
          rw [recT_split, List.length_append, show recT [v] = varint (kindOf v) by unfold recT; simp]; lia
        have e9 : done.length + 1 = (done ++ [v]).length := by simp
        rw [e7, e8, e9]
        exact ⟨rest.length, by simp, done ++ [v], rest, _, rfl, by rw [← hds]; simp, by rw [← e9]; lia, rfl, rfl⟩
  · have hre : rest = [] := by
      cases rest with
      | nil => rfl
      | cons v rest =>
        have := varint_length_pos (kindOf v)
        have h2 : recT (v :: rest) = varint (kindOf v) ++ recT rest := rfl
        rw [h2, List.length_append] at hsum
        lia
    subst hre
    rw [List.append_nil] at hds
    subst hds
    rw [List.getElem?_eq_none hdi] at h
    specialize "w"
    exact ⟨_, .refl _, h⟩
end
section
open PySem PySem.W PyProof.Rows
set_option Elab.async false
set_option linter.unusedVariables false
set_option maxRecDepth 100000
set_option maxHeartbeats 4000000

def src (B X : Nat) : AObj := .list [.int (B : Nat), .int (X : Nat)]
def SrcAt (H : AHeap) (s : Addr) : Prop := ∃ B X : Nat, H s = some (src B X) ∧ X < 2147483647
theorem c_law_pool {F : FC} {c : Cx} {X : XP} {m : Loc} {H : AHeap} {a : Addr} {ob : Obj} {ns : List Int} {k : Nat} {Q : AV → AHeap → Prop} (ok : FOk F 1) (e : H a = some (.script ob ns)) (hl : ns.length ≤ 1000) (hk : k < 100)
    (h : ∀ (B Y : Nat) d, Y < 2147483647 → H d = none → Q (.ref d) (H.set d (src B Y))) : WCall F c (.ref 206) [.ref a, .int (k : Nat)] Q X m H := by
  refine body_law_pool ok fun c' hw => ?_
  conv => arg 3; whnf
  specialize "w"
  refine len_script e (by show _ ≤ 16777216; lia) ?_
  specialize "w"
  have tail : ∀ (x : Int) Q', (∀ (B Y : Nat) d, Y < 2147483647 → H d = none → Q' (.ref d) (H.set d (src B Y))) → WSs (FG (scopeAt 34) 1) c' ((bodyAt 34).drop 2) (retQ Q') noX [(Str.ofString "script", some (.ref a)), (Str.ofString "k", some (.int (k : Nat))), (Str.ofString "cell", some (.int x)), (Str.ofString "big", none), (Str.ofString "mixed", none)] H := by
    intro x Q' h
    conv => arg 3; whnf
    specialize "w"
    refine int_int ?_
    specialize "w"
    refine op_sub ?_
    specialize "w"
    refine int_int ?_
    specialize "w"
    refine max_int ?_
    obtain ⟨B, hB⟩ : ∃ B : Nat, max x (-1 - x) = B := ⟨(max x (-1 - x)).toNat, by lia⟩
    rw [hB]
    specialize "w"
    refine int_int ?_
    specialize "w"
    refine op_modN 2147483629 (by decide) ?_
    specialize "w"
    refine op_mulN' 7919 k (by decide) ?_
    specialize "w"
    refine op_mulN (7919 * k) k (by lia) ?_
    refine op_addN (7919 * k * k) ?_
    specialize "w"
    refine op_mulN' 31 k (by decide) ?_
    refine op_addN (31 * k) ?_
    specialize "w"
    refine op_addN 17 ?_
    specialize "w"
    refine op_mulN _ 48271 (by decide) ?_
    specialize "w"
    refine int_int ?_
    specialize "w"
    refine op_modN 2147483647 (by decide) ?_
    specialize "w"
    refine op_powN 10 18 1000000000000000000 ?_
    specialize "w"
    refine int_bool ?_
    specialize "w"
    have hlast : (B % 2147483629 + 7919 * k * k + 31 * k + 17) * 48271 % 2147483647 < 2147483647 := Nat.mod_lt _ (by decide)
    generalize decide ((B : Int) ≥ ((1000000000000000000 : Nat) : Int)) = bb
    cases bb
    · refine op_mulN B 0 (by decide) ?_
      specialize "w"
      intro d hd
      specialize "w"
      exact ⟨_, .refl _, h _ _ d hlast hd⟩
    · refine op_mulN B 1 (by decide) ?_
      specialize "w"
      intro d hd
      specialize "w"
      exact ⟨_, .refl _, h _ _ d hlast hd⟩
  refine br (fun hc => ?_) fun hc => ?_
  · have hlt : k < ns.length := by lia
    specialize "w"
    refine sub_script (i := k) e (List.getElem?_eq_getElem hlt) (by show _ ≤ 16777216; lia) ?_
    specialize "S"
    specialize "S"
    specialize "S"
    specialize "S"
    exact tail _ Q h
  · specialize "S"
    specialize "S"
    exact tail _ Q h
theorem c_law_take {F : FC} {c : Cx} {X : XP} {m : Loc} {H : AHeap} {s : Addr} {top : Nat} {Q : AV → AHeap → Prop} (ok : FOk F 1) (e : SrcAt H s) (h0 : 0 < top) (h1 : top < 1073741824)
    (h : ∀ r B Y : Nat, r < top → Y < 2147483647 → Q (.int (r : Nat)) (H.set s (src B Y))) : WCall F c (.ref 213) [.ref s, .int (top : Nat)] Q X m H := by
  obtain ⟨B, Y, e, hY⟩ := e
  refine body_law_take ok fun c' hw => ?_
  conv => arg 3; whnf
  specialize "w"
  refine sub_list (i := 0) e rfl (Nat.zero_le _) ?_
  specialize "w"
  refine br (fun hc => ?_) fun hc => ?_
  · specialize "w"
    refine sub_list (i := 0) e rfl (Nat.zero_le _) ?_
    specialize "w"
    refine int_int ?_
    specialize "w"
    refine op_modN top h0 ?_
    specialize "w"
    refine WS_SetItem (a := s) At.here ?_
    specialize "w"
    refine sub_list (i := 0) e rfl (Nat.zero_le _) ?_
    specialize "w"
    refine op_divN top h0 h1 ?_
    specialize "w"
    refine ⟨0, rfl, _, e, by simp, Nat.le_of_ble_eq_true rfl, ?_⟩
    specialize "w"
    exact ⟨_, .refl _, h (B % top) (B / top) Y (Nat.mod_lt _ h0) hY⟩
  · specialize "w"
    refine WS_SetItem (a := s) At.here ?_
    specialize "w"
    refine sub_list (i := 1) e rfl (by show 1 ≤ 16777216; lia) ?_
    specialize "w"
    refine op_mulN Y 39373 (by decide) ?_
    specialize "w"
    refine op_addN 7 ?_
    specialize "w"
    refine int_int ?_
    specialize "w"
    refine op_modN 2147483647 (by decide) ?_
    specialize "w"
    refine ⟨1, rfl, _, e, by simp, Nat.le_of_ble_eq_true rfl, ?_⟩
    have hY2 : (Y * 39373 + 7) % 2147483647 < 2147483647 := Nat.mod_lt _ (by decide)
    generalize (Y * 39373 + 7) % 2147483647 = Y2 at hY2
    specialize "w"
    refine sub_list (i := 1) (AHeap.set_same _ _ _) rfl (by show 1 ≤ 16777216; lia) ?_
    specialize "w"
    refine sub_list (i := 1) (AHeap.set_same _ _ _) rfl (by show 1 ≤ 16777216; lia) ?_
    refine op_mulN Y2 Y2 (by lia) ?_
    specialize "w"
    refine int_int ?_
    specialize "w"
    refine op_modN 2147483629 (by decide) ?_
    specialize "w"
    refine op_divN 32 (by decide) (by decide) ?_
    specialize "w"
    refine int_int ?_
    specialize "w"
    refine op_modN top h0 ?_
    specialize "w"
    exact ⟨_, .refl _, h _ B Y2 (Nat.mod_lt _ h0) hY2⟩
theorem c_law_one {F : FC} {c : Cx} {X : XP} {m : Loc} {H : AHeap} {s t : Addr} {xs : List AV} {Q : AV → AHeap → Prop} (ok : FOk F 2) (e : SrcAt H s) (et : H t = some (.list xs)) (hst : t ≠ s) (h0 : 0 < xs.length) (h1 : xs.length < 1000)
    (h : ∀ v (B Y : Nat), v ∈ xs → Y < 2147483647 → Q v (H.set s (src B Y))) : WCall F c (.ref 220) [.ref s, .ref t] Q X m H := by
  refine body_law_one ok fun c' hw => ?_
  conv => arg 3; whnf
  specialize "w"
  refine len_list et (by show _ ≤ 16777216; lia) ?_
  specialize "w"
  refine c_law_take ⟨rfl, rfl, by decide⟩ e h0 (by lia) fun r B Y hr hY => ?_
  refine sub_list ((AHeap.set_ne _ _ hst).trans et) (List.getElem?_eq_getElem hr) (by show _ ≤ 16777216; lia) ?_
  specialize "w"
  exact ⟨_, .refl _, h _ B Y (List.getElem_mem _) hY⟩
end
section
open PySem PySem.W PyProof.Rows
set_option Elab.async false
set_option linter.unusedVariables false
set_option maxRecDepth 100000
set_option maxHeartbeats 4000000

section
variable {F : FC} {c : Cx} {X : XP} {m : Loc} {H : AHeap}
theorem add_listN {a b : Addr} {xs ys : List Nat} {Q : AV → AHeap → Prop} (e1 : H a = some (.list (nints xs))) (e2 : H b = some (.list (nints ys))) (hf : xs.length + ys.length ≤ bigLine) (h : ∀ d, H d = none → Q (.ref d) (H.set d (.list (nints (xs ++ ys))))) : WOp F c .Add (.ref a) (.ref b) Q X m H :=
  add_list e1 e2 (by rw [nints_length, nints_length]; exact hf) fun d hd => by rw [← nints_append]; exact h d hd
theorem len_listN {a : Addr} {xs : List Nat} {Q : AV → AHeap → Prop} (e : H a = some (.list (nints xs))) (hf : xs.length ≤ bigLine) (h : Q (.int (xs.length : Nat)) H) : WCall F c (.builtin "len") [.ref a] Q X m H :=
  len_list e (by rw [nints_length]; exact hf) (by rw [nints_length]; exact h)
end
theorem c_law_varint {F : FC} {c : Cx} {X : XP} {m : Loc} {H : AHeap} {n : Int} {N : Nat} {Q : AV → AHeap → Prop} (ok : FOk F 1) (hN : n % 18446744073709551616 = N)
    (h : ∀ d, H d = none → Q (.ref d) (H.set d (.list (nints (varint N))))) : WCall F c (.ref 227) [.int n] Q X m H := by
  refine body_law_varint ok fun c' hw => ?_
  conv => arg 3; whnf
  specialize "w"
  refine op_powN 2 64 18446744073709551616 ?_
  with_reducible refine' op_mod ?_ ?_
  · decide
  rw [show (((18446744073709551616 : Nat) : Int)) = 18446744073709551616 from rfl, hN]
  have hlt : N < 18446744073709551616 := by lia
  specialize "w"
  refine op_powN 2 56 72057594037927936 ?_
  specialize "w"
  refine br (fun hc => ?_) fun hc => ?_
  · specialize "w"
    refine WS_AssignS2 ?_ ?hw
    case hw => intro env he; obtain ⟨⟩ := env; cases he; kernel_rfl
    specialize "w"
    refine op_modN 256 (by decide) ?_
    specialize "w"
    intro d hd
    specialize "w"
    refine op_divN 256 (by decide) (by decide) ?_
    specialize "w"
    refine ⟨_, _, rfl, ?_⟩
    specialize "w"
    refine WS_For ?_
    specialize "w"
    refine range1 fun e he => ?_
    refine rng_k 0 8 he ?_
    refine WLoop_ind asgN_mono (fun r m H' => ∃ k j R acc d tv, r = rg j k ∧ m = [(Str.ofString "number", some (.int (N : Nat))), (Str.ofString "found", some (.ref d)), (Str.ofString "left", some (.int (R : Nat))), (Str.ofString "turn", tv)] ∧
      H d = none ∧ H' = H.set d (.list (nints acc)) ∧ acc.length + k ≤ 9 ∧ v8 k R acc = varint N) (fun _ _ _ _ => trivial) ?_ ?_ ⟨8, 0, N / 256, [N % 256], d, none, rfl, rfl, hd, rfl, by simp, by unfold varint; rw [if_neg (by lia)]⟩
    · rintro v r m H' ⟨k, j, R, acc, d, tv, e, rfl, hd, rfl, hl, hv⟩
      obtain ⟨k, rfl, rfl, rfl⟩ := rg_cons e
      specialize "S"
      refine WF.shrink ?_
      specialize "w"
      refine op_modN 128 (by decide) ?_
      specialize "w"
      refine op_addL 128 ?_
      specialize "w"
      intro e he
      specialize "w"
      refine add_listN (xs := [128 + R % 128]) (AHeap.set_same _ _ _) ((AHeap.set_ne _ _ (AHeap.ne_of he (AHeap.set_same _ _ _))).trans (AHeap.set_same _ _ _)) (by show _ ≤ 16777216; simp; lia) fun f hf => ?_
      specialize "w"
      refine op_divN 128 (by decide) (by decide) ?_
      specialize "w"
      have hf0 : H f = none := (AHeap.set_none (AHeap.set_none hf).2).2
      refine ⟨H.set f (.list (nints ([128 + R % 128] ++ acc))), (((AHeap.Sub.refl H).new hd).new (AHeap.set_none he).2).set f _, ?_⟩
      exact ⟨k, j + 1, R / 128, (128 + R % 128) :: acc, f, _, rfl, rfl, hf0, rfl, by simp; lia, hv⟩
    · rintro m H' ⟨k, j, R, acc, d, tv, e, rfl, hd, rfl, hl, hv⟩
      obtain rfl := rg_nil e
      have hv' : acc = varint N := hv
      subst hv'
      specialize "w"
      exact ⟨_, .refl _, h d hd⟩
  · specialize "w"
    refine WS_AssignS2 ?_ ?hw
    case hw => intro env he; obtain ⟨⟩ := env; cases he; kernel_rfl
    specialize "w"
    refine op_modN 128 (by decide) ?_
    specialize "w"
    intro d hd
    specialize "w"
    refine op_divN 128 (by decide) (by decide) ?_
    specialize "w"
    refine ⟨_, _, rfl, ?_⟩
    specialize "w"
    have hv0 : varint N = vtail (N / 128) [N % 128] := by unfold varint; rw [if_pos (by lia)]
    refine WS_While (fun k m H' => ∃ R acc d, k = R ∧ m = [(Str.ofString "number", some (.int (N : Nat))), (Str.ofString "found", some (.ref d)), (Str.ofString "left", some (.int (R : Nat))), (Str.ofString "turn", none)] ∧
      H d = none ∧ H' = H.set d (.list (nints acc)) ∧ (∃ j, acc.length + j ≤ 9 ∧ R < 128 ^ j) ∧ vtail R acc = varint N) (N / 128) ⟨_, [N % 128], d, rfl, rfl, hd, rfl, ⟨8, by simp, by lia⟩, hv0.symm⟩ ?_
    rintro k m H' ⟨R, acc, d, rfl, rfl, hd, rfl, ⟨j, hl, hR⟩, hv⟩
    specialize "w"
    refine br (fun hc => ?_) fun hc => ?_
    · have hpos : 0 < k := by lia
      obtain ⟨j, rfl⟩ : ∃ i, j = i + 1 := by
        cases j with
        | zero => simp at hR; lia
        | succ i => exact ⟨i, rfl⟩
      refine WF.shrink ?_
      specialize "w"
      refine op_modN 128 (by decide) ?_
      specialize "w"
      refine op_addL 128 ?_
      specialize "w"
      intro e he
      specialize "w"
      refine add_listN (xs := [128 + k % 128]) (AHeap.set_same _ _ _) ((AHeap.set_ne _ _ (AHeap.ne_of he (AHeap.set_same _ _ _))).trans (AHeap.set_same _ _ _)) (by show _ ≤ 16777216; simp; lia) fun f hf => ?_
      specialize "w"
      refine op_divN 128 (by decide) (by decide) ?_
      specialize "w"
      have hf0 : H f = none := (AHeap.set_none (AHeap.set_none hf).2).2
      refine ⟨H.set f (.list (nints ([128 + k % 128] ++ acc))), (((AHeap.Sub.refl H).new hd).new (AHeap.set_none he).2).set f _, ?_⟩
      refine ⟨k / 128, by lia, k / 128, (128 + k % 128) :: acc, f, rfl, rfl, hf0, rfl, ⟨j, by simp; lia, ?_⟩, ?_⟩
      · rw [Nat.pow_succ] at hR; exact Nat.div_lt_of_lt_mul (by rw [Nat.mul_comm]; exact hR)
      · rw [← hv, vtail_pos hpos]
    · obtain rfl : k = 0 := by lia
      have hv' : acc = varint N := by rw [← hv, vtail_zero]
      subst hv'
      specialize "w"
      exact ⟨_, .refl _, h d hd⟩
end
section
open PySem PySem.W PyProof.Rows
set_option Elab.async false
set_option linter.unusedVariables false
set_option maxRecDepth 100000
set_option maxHeartbeats 4000000

def Pairs (H : AHeap) : Nat → List Addr → Prop
  | _, [] => True
  | j, e :: es => H e = some (.list [.int (j : Nat), .int (sizeOfKind j : Nat)]) ∧ Pairs H (j + 1) es
theorem pow_whole (s : Nat) : 2 ^ (8 * s) = 256 ^ s := by rw [Nat.pow_mul]
theorem pow_half {s : Nat} (hs : 0 < s) : 2 ^ (8 * s - 1) = 256 ^ s / 2 := by
  obtain ⟨t, rfl⟩ : ∃ t, s = t + 1 := ⟨s - 1, by lia⟩
  have e1 : 2 ^ (8 * (t + 1) - 1) = 2 ^ (8 * t) * 128 := by rw [show 8 * (t + 1) - 1 = 8 * t + 7 by lia, Nat.pow_add]
  have e2 : 256 ^ (t + 1) = 2 ^ (8 * t) * 256 := by rw [← pow_whole, show 8 * (t + 1) = 8 * t + 8 by lia, Nat.pow_add]
  rw [e1, e2]; lia
theorem sizeOfKind_pos {k : Nat} (q1 : 1 ≤ k) (q2 : k ≤ 6) : 0 < sizeOfKind k := by
  match k, q1, q2 with
  | 1, _, _ => decide
  | 2, _, _ => decide
  | 3, _, _ => decide
  | 4, _, _ => decide
  | 5, _, _ => decide
  | 6, _, _ => decide
def forBody : Stmt → List Stmt
  | .For _ _ b _ _ => b
  | .While _ b _ _ => b
  | _ => []
def stmtOf (l : List Stmt) (i : Nat) : Stmt := (l[i]?).getD (.Pass ⟨0, 0, 0, 0⟩)
theorem sub_new {H G : AHeap} (h : H.Sub G) {a : Addr} {o : AObj} (n : G a = none) : H.Sub (G.set a o) := h.new (h.none n)
theorem look_new {H : AHeap} {a b : Addr} {o p : AObj} (n : H a = none) (e : H b = some p) : H.set a o b = some p := (AHeap.set_ne _ _ (AHeap.ne_of n e)).trans e
theorem six {H : AHeap} {d0 e1 e2 e3 e4 e5 e6 e7 : Addr} {o0 o1 o2 o3 o4 o5 o6 o7 : AObj} (h0 : H d0 = none) (h1 : H.set d0 o0 e1 = none) (h2 : (H.set d0 o0).set e1 o1 e2 = none) (h3 : ((H.set d0 o0).set e1 o1).set e2 o2 e3 = none)
    (h4 : (((H.set d0 o0).set e1 o1).set e2 o2).set e3 o3 e4 = none) (h5 : ((((H.set d0 o0).set e1 o1).set e2 o2).set e3 o3).set e4 o4 e5 = none) (h6 : (((((H.set d0 o0).set e1 o1).set e2 o2).set e3 o3).set e4 o4).set e5 o5 e6 = none)
    (h7 : ((((((H.set d0 o0).set e1 o1).set e2 o2).set e3 o3).set e4 o4).set e5 o5).set e6 o6 e7 = none) :
    H.Sub (((((((H.set d0 o0).set e1 o1).set e2 o2).set e3 o3).set e4 o4).set e5 o5).set e6 o6 |>.set e7 o7) ∧
    (((((((H.set d0 o0).set e1 o1).set e2 o2).set e3 o3).set e4 o4).set e5 o5).set e6 o6 |>.set e7 o7) e1 = some o1 ∧
    (((((((H.set d0 o0).set e1 o1).set e2 o2).set e3 o3).set e4 o4).set e5 o5).set e6 o6 |>.set e7 o7) e2 = some o2 ∧
    (((((((H.set d0 o0).set e1 o1).set e2 o2).set e3 o3).set e4 o4).set e5 o5).set e6 o6 |>.set e7 o7) e3 = some o3 ∧
    (((((((H.set d0 o0).set e1 o1).set e2 o2).set e3 o3).set e4 o4).set e5 o5).set e6 o6 |>.set e7 o7) e4 = some o4 ∧
    (((((((H.set d0 o0).set e1 o1).set e2 o2).set e3 o3).set e4 o4).set e5 o5).set e6 o6 |>.set e7 o7) e5 = some o5 ∧
    (((((((H.set d0 o0).set e1 o1).set e2 o2).set e3 o3).set e4 o4).set e5 o5).set e6 o6 |>.set e7 o7) e6 = some o6 :=
  ⟨sub_new (sub_new (sub_new (sub_new (sub_new (sub_new (sub_new (sub_new (AHeap.Sub.refl H) h0) h1) h2) h3) h4) h5) h6) h7,
    look_new h7 (look_new h6 (look_new h5 (look_new h4 (look_new h3 (look_new h2 (AHeap.set_same _ _ _)))))),
    look_new h7 (look_new h6 (look_new h5 (look_new h4 (look_new h3 (AHeap.set_same _ _ _))))),
    look_new h7 (look_new h6 (look_new h5 (look_new h4 (AHeap.set_same _ _ _)))),
    look_new h7 (look_new h6 (look_new h5 (AHeap.set_same _ _ _))),
    look_new h7 (look_new h6 (AHeap.set_same _ _ _)),
    look_new h7 (AHeap.set_same _ _ _)⟩
theorem law_body_loop {c' : Cx} {H G : AHeap} {i : Int} {es : List Addr} {S : AHeap → Prop} {Q : AV → AHeap → Prop} {Q' : AFlow → Loc → AHeap → Prop} (hv : numType i ≠ 7) (h1 : ¬ (i = 0 ∨ i = 1)) (hs : H.Sub G) (hp : Pairs G 1 es) (hl : es.length = 6) (hS : S G)
    (hQ : ∀ v m H, Q' (.ret v) m H = retQ Q (.ret v) m H)
    (h : ∀ o d, H o = none → H d = none → o ≠ d → Q (.ref d) ((H.set o (.list (nints (bodyOf (.int i))))).set d (.list [.int (kindOf (.int i) : Nat), .ref o]))) :
    WLoop (FG (scopeAt 38) 1) c' (asg2 (Str.ofString "kind") (Str.ofString "size")) (forBody (stmtOf (bodyAt 38) 4)) S Q' (es.map AV.ref) [(Str.ofString "value", some (.int i)), (Str.ofString "octets", none), (Str.ofString "kind", none), (Str.ofString "size", none), (Str.ofString "left", none), (Str.ofString "turn", none)] G := by
  have hnt : numType i = kindFrom 1 6 i := by unfold numType; rw [if_neg (fun q => h1 (.inl q)), if_neg (fun q => h1 (.inr q))]
  conv => arg 4; whnf
  refine WLoop_ind asg2_mono (fun r m H' => ∃ j es kv sv, r = es.map AV.ref ∧ es.length + j = 7 ∧ 1 ≤ j ∧ Pairs G j es ∧ kindFrom j es.length i = kindFrom 1 6 i ∧ m = [(Str.ofString "value", some (.int i)), (Str.ofString "octets", none), (Str.ofString "kind", kv), (Str.ofString "size", sv), (Str.ofString "left", none), (Str.ofString "turn", none)] ∧ G = H')
    ?_ ?_ ?_ ⟨1, es, none, none, rfl, by lia, by lia, hp, by rw [hl], rfl, rfl⟩
  · rintro r m H' ⟨j, es, kv, sv, _, _, _, _, _, _, rfl⟩
    exact hS
  · rintro v r m H' ⟨j, es, kv, sv, hr, hlj, hj, hp, hk, rfl, rfl⟩
    cases es with
    | nil => cases hr
    | cons e es =>
      injection hr with hr1 hr2
      subst hr1 hr2
      obtain ⟨he, hp⟩ := hp
      have hj6 : j ≤ 6 := by simp at hlj; lia
      have hs8 := sizeOfKind_le j
      have hs0 := sizeOfKind_pos hj hj6
      have hk' : (if -((256 ^ sizeOfKind j / 2 : Nat) : Int) ≤ i ∧ i < ((256 ^ sizeOfKind j / 2 : Nat) : Int) then j else kindFrom (j + 1) es.length i) = kindFrom 1 6 i := hk
      refine ⟨_, _, .list he, ?_⟩
      specialize "w"
      refine op_mulN' 8 (sizeOfKind j) (by decide) ?_
      specialize "w"
      refine op_subN 1 (by lia) ?_
      refine op_powN 2 (8 * sizeOfKind j - 1) (256 ^ sizeOfKind j / 2) ?_ rfl rfl (pow_half hs0) (by decide) (by lia)
      specialize "w"
      refine br (fun h2 => ?_) fun h2 => ?_
      · specialize "w"
        refine op_mulN' 8 (sizeOfKind j) (by decide) ?_
        specialize "w"
        refine op_subN 1 (by lia) ?_
        refine op_powN 2 (8 * sizeOfKind j - 1) (256 ^ sizeOfKind j / 2) ?_ rfl rfl (pow_half hs0) (by decide) (by lia)
        specialize "w"
        refine br (fun h3 => ?_) fun h3 => ?_
        · specialize "w"
          rw [if_pos ⟨h2, h3⟩, ← hnt] at hk'
          subst hk'
          have ebody : bodyOf (.int i) = fix (sizeOfKind (numType i)) (i % ((256 ^ sizeOfKind (numType i) : Nat) : Int)).toNat [] := if_neg (by lia)
          have hpos : (0 : Int) < ((256 ^ sizeOfKind (numType i) : Nat) : Int) := by exact_mod_cast Nat.pow_pos (by decide)
          obtain ⟨R, hR⟩ : ∃ R : Nat, i % ((256 ^ sizeOfKind (numType i) : Nat) : Int) = R := ⟨(i % ((256 ^ sizeOfKind (numType i) : Nat) : Int)).toNat, (Int.toNat_of_nonneg (Int.emod_nonneg _ (by lia))).symm⟩
          rw [hR, Int.toNat_natCast] at ebody
          rw [ebody] at h
          generalize hsz : sizeOfKind (numType i) = sz at *
          refine WS_AssignS2 ?_ ?hw
          case hw => intro env he; obtain ⟨⟩ := env; cases he; kernel_rfl
          specialize "w"
          refine op_mulN' 8 sz (by decide) ?_
          refine op_powN 2 (8 * sz) (256 ^ sz) ?_ rfl rfl (pow_whole sz) (by decide) (by lia)
          with_reducible refine' op_mod ?_ ?_
          · exact hpos
          rw [hR]
          specialize "w"
          intro d hd
          specialize "w"
          refine ⟨_, _, rfl, ?_⟩
          specialize "w"
          refine WS_For ?_
          specialize "w"
          refine range1 fun e' he' => ?_
          refine rng_k 0 sz he' ?_ rfl (by rw [Nat.zero_add]) (by lia)
          refine WLoop_ind asgN_mono (fun r m H' => ∃ k j' R' acc d tv, r = rg j' k ∧ m = [(Str.ofString "value", some (.int i)), (Str.ofString "octets", some (.ref d)), (Str.ofString "kind", some (.int (numType i : Nat))), (Str.ofString "size", some (.int (sz : Nat))), (Str.ofString "left", some (.int (R' : Nat))), (Str.ofString "turn", tv)] ∧
            H' d = some (.list (nints acc)) ∧ G d = none ∧ H' = G.set d (.list (nints acc)) ∧ acc.length + k ≤ 8 ∧ fix k R' acc = fix sz R []) (fun _ _ _ _ => trivial) ?_ ?_ ⟨sz, 0, R, [], d, none, rfl, rfl, AHeap.set_same _ _ _, hd, rfl, by simp; lia, rfl⟩
          · rintro v r m H' ⟨k, j', R', acc, d, tv, e, rfl, _, hd, rfl, hl, hv⟩
            obtain ⟨k, rfl, rfl, rfl⟩ := rg_cons e
            specialize "S"
            refine WF.shrink ?_
            specialize "w"
            refine op_modN 256 (by decide) ?_
            specialize "w"
            intro e he
            specialize "w"
            refine add_listN (xs := [R' % 256]) (AHeap.set_same _ _ _) ((AHeap.set_ne _ _ (AHeap.ne_of he (AHeap.set_same _ _ _))).trans (AHeap.set_same _ _ _)) (by show _ ≤ 16777216; simp; lia) fun f hf => ?_
            specialize "w"
            refine op_divN 256 (by decide) (by decide) ?_
            specialize "w"
            have hf0 : G f = none := (AHeap.set_none (AHeap.set_none hf).2).2
            refine ⟨G.set f (.list (nints ([R' % 256] ++ acc))), (((AHeap.Sub.refl G).new hd).new (AHeap.set_none he).2).set f _, ?_⟩
            exact ⟨k, j' + 1, R' / 256, R' % 256 :: acc, f, _, rfl, rfl, AHeap.set_same _ _ _, hf0, rfl, by simp; lia, hv⟩
          · rintro m H' ⟨k, j', R', acc, d, tv, e, rfl, _, hd, rfl, hl, hv⟩
            obtain rfl := rg_nil e
            have hv' : acc = fix sz R [] := hv
            subst hv'
            specialize "w"
            intro d2 hd2
            specialize "w"
            rw [hQ]
            have hs2 := (hs.set d (.list (nints (fix sz R [])))).set d2 (.list [.int (numType i : Nat), .ref d])
            exact ⟨_, hs2, h d d2 (hs.none hd) (hs.none (AHeap.set_none hd2).2) (Ne.symm (AHeap.set_none hd2).1)⟩
        · rw [if_neg (fun q => h3 q.2)] at hk'
          specialize "w"
          exact ⟨j + 1, es, _, _, rfl, by simp at hlj; lia, by lia, hp, hk', rfl, rfl⟩
      · rw [if_neg (fun q => h2 q.1)] at hk'
        specialize "w"
        exact ⟨j + 1, es, _, _, rfl, by simp at hlj; lia, by lia, hp, hk', rfl, rfl⟩
  · rintro m H' ⟨j, es, kv, sv, hr, hlj, hj, hp, hk, rfl, rfl⟩
    cases es with
    | nil => exact absurd (hnt.trans hk.symm) hv
    | cons => cases hr
theorem c_law_body {F : FC} {c : Cx} {X : XP} {m : Loc} {H : AHeap} {v : AV} {Q : AV → AHeap → Prop} (ok : FOk F 1) (hv : VOk v)
    (h : ∀ o d, H o = none → H d = none → o ≠ d → Q (.ref d) ((H.set o (.list (nints (bodyOf v)))).set d (.list [.int (kindOf v : Nat), .ref o]))) : WCall F c (.ref 234) [v] Q X m H := by
  have fin : ∀ o d, H o = none → (H.set o (.list (nints (bodyOf v)))) d = none → Q (.ref d) ((H.set o (.list (nints (bodyOf v)))).set d (.list [.int (kindOf v : Nat), .ref o])) := fun o d ho hd =>
    h o d ho (AHeap.set_none hd).2 (Ne.symm (AHeap.set_none hd).1)
  refine body_law_body ok fun c' hw => ?_
  conv => arg 3; whnf
  specialize "w"
  cases v with
  | none =>
    refine ift ?_
    specialize "w"
    intro o ho
    specialize "w"
    intro d hd
    specialize "w"
    exact ⟨_, .refl _, fin o d ho hd⟩
  | str s =>
    have hb := bodyOf_length hv
    have hb' : (encs s.cps.toList).length ≤ 70 := hb
    refine iff' ?_
    specialize "w"
    refine isi_any rfl (by simp) ?_
    specialize "w"
    refine ift ?_
    specialize "w"
    refine ⟨_, meth_encode, ?_⟩
    specialize "w"
    refine str_encode hv.2 (by have := hv.1; lia) ?_
    specialize "w"
    refine list_bytes (by show _ ≤ 16777216; lia) fun o ho => ?_
    specialize "w"
    refine len_listN (xs := encs s.cps.toList) (AHeap.set_same _ _ _) (by show _ ≤ 16777216; lia) ?_
    specialize "w"
    refine op_mulN' 2 (encs s.cps.toList).length (by decide) ?_
    specialize "w"
    refine op_addL 13 ?_
    specialize "w"
    intro d hd
    specialize "w"
    exact ⟨_, .refl _, fin o d ho hd⟩
  | bytes b =>
    have hb := hv.1
    refine iff' ?_
    specialize "w"
    refine isi_any rfl (by simp) ?_
    specialize "w"
    refine iff' ?_
    specialize "w"
    refine isi_any rfl (by simp) ?_
    specialize "w"
    refine ift ?_
    specialize "w"
    refine len_bytesA (by show _ ≤ 16777216; lia) ?_
    specialize "w"
    refine op_mulN' 2 b.length (by decide) ?_
    specialize "w"
    refine op_addL 12 ?_
    specialize "w"
    refine list_bytes (by show _ ≤ 16777216; lia) fun o ho => ?_
    specialize "w"
    intro d hd
    specialize "w"
    exact ⟨_, .refl _, fin o d ho hd⟩
  | int i =>
    refine iff' ?_
    specialize "w"
    refine isi_any rfl (by simp) ?_
    specialize "w"
    refine iff' ?_
    specialize "w"
    refine isi_any rfl (by simp) ?_
    specialize "w"
    refine iff' ?_
    specialize "w"
    intro d0 hd0
    specialize "w"
    refine cmp_in_list (ns := [0, 1]) (AHeap.set_same _ _ _) ?_
    rw [show ([0, 1] : List Int).any (· == i) = decide (i = 0 ∨ i = 1) by
      rw [Bool.eq_iff_iff]; simp; lia]
    refine br (fun h1 => ?_) fun hni => ?_
    · have hn : (numType i = 8 ∨ numType i = 9) ∧ (8 : Int) + i = ((numType i : Nat) : Int) := by
        rcases h1 with rfl | rfl <;> decide
      specialize "w"
      refine op_add ?_
      rw [hn.2]
      specialize "w"
      intro o ho
      specialize "w"
      intro d hd
      specialize "w"
      have e : bodyOf (.int i) = [] := if_pos hn.1
      rw [e] at fin
      exact ret_sub ((((AHeap.Sub.refl H).new hd0).set o _).set d _) (fin o d (AHeap.set_none ho).2 (AHeap.Sub.none (((AHeap.Sub.refl H).new hd0).set o _) hd))
    specialize "w"
    refine WS_ForT2 ?_
    specialize "w"
    intro e1 h1
    specialize "w"
    intro e2 h2
    specialize "w"
    intro e3 h3
    specialize "w"
    intro e4 h4
    specialize "w"
    intro e5 h5
    specialize "w"
    intro e6 h6
    specialize "w"
    intro e7 h7
    obtain ⟨hs, l1, l2, l3, l4, l5, l6⟩ := six (o7 := .list [.ref e1, .ref e2, .ref e3, .ref e4, .ref e5, .ref e6]) hd0 h1 h2 h3 h4 h5 h6 h7
    refine ⟨_, _, _, .list (AHeap.set_same _ _ _), .refl _, ?_⟩
    exact law_body_loop (es := [e1, e2, e3, e4, e5, e6]) hv hni hs ⟨l1, l2, l3, l4, l5, l6, trivial⟩ rfl (AHeap.set_same _ _ _) (fun _ _ _ => rfl) h
  | _ => exact hv.elim
end
section
open PySem PySem.W PyProof.Rows
set_option Elab.async false
set_option linter.unusedVariables false
set_option maxRecDepth 100000
set_option maxHeartbeats 4000000

theorem c_law_record {F : FC} {c : Cx} {X : XP} {m : Loc} {H : AHeap} {a : Addr} {vs : List AV} {Q : AV → AHeap → Prop} (ok : FOk F 2) (e : H a = some (.list vs)) (r : Row vs)
    (h : ∀ d, H d = none → Q (.ref d) (H.set d (.list (nints (record vs))))) : WCall F c (.ref 241) [.ref a] Q X m H := by
  refine body_law_record ok fun c' hw => ?_
  conv => arg 3; whnf
  specialize "w"
  refine WS_AssignS2 ?_ ?hw
  case hw => intro env he; obtain ⟨⟩ := env; cases he; kernel_rfl
  specialize "w"
  intro k0 hk0
  specialize "w"
  intro b0 hb0
  specialize "w"
  refine ⟨_, _, rfl, ?_⟩
  specialize "w"
  refine WS_For ?_
  specialize "w"
  refine ⟨_, _, _, .list (xs := vs) (look_new hb0 (look_new hk0 e)), .refl _, ?_⟩
  refine WLoop_ind asgN_mono (fun rs m H' => ∃ (done : List AV) (k b : Addr) (t1 t2 t3 : Option AV), done ++ rs = vs ∧ H k = none ∧ H.set k (.list (nints (recT done))) b = none ∧ m = [(Str.ofString "values", some (.ref a)), (Str.ofString "kinds", some (.ref k)), (Str.ofString "bodies", some (.ref b)), (Str.ofString "value", t1), (Str.ofString "kind", t2), (Str.ofString "octets", t3), (Str.ofString "size", none)] ∧
    H' = (H.set k (.list (nints (recT done)))).set b (.list (nints (recB done)))) ?_ ?_ ?_ ⟨[], k0, b0, none, none, none, rfl, hk0, hb0, rfl, rfl⟩
  · rintro rs m H' ⟨done, k, b, t1, t2, t3, hds, hk, hb, rfl, rfl⟩
    exact look_new hb (look_new hk e)
  · rintro v rs m H' ⟨done, k, b, t1, t2, t3, hds, hk, hb, rfl, rfl⟩
    have hv : VOk v := r.ok v (by rw [← hds]; simp)
    have hdl : done.length ≤ 129 := by have := congrArg List.length hds; rw [List.length_append] at this; have := r.len; lia
    have g1 := recT_length done
    have g2 := recB_length done fun w hw => r.ok w (by rw [← hds]; simp [hw])
    have g3 := varint_length_le (kindOf v)
    have g4 := bodyOf_length hv
    have g5 := kindOf_lt hv
    have lk : ((H.set k (.list (nints (recT done)))).set b (.list (nints (recB done)))) k = some (.list (nints (recT done))) := look_new hb (AHeap.set_same _ _ _)
    have lb : ((H.set k (.list (nints (recT done)))).set b (.list (nints (recB done)))) b = some (.list (nints (recB done))) := AHeap.set_same _ _ _
    have sH : H.Sub ((H.set k (.list (nints (recT done)))).set b (.list (nints (recB done)))) := sub_new (sub_new (.refl H) hk) hb
    generalize ((H.set k (.list (nints (recT done)))).set b (.list (nints (recB done)))) = H1 at lk lb sH
    specialize "S"
    refine WF.shrink ?_
    specialize "w"
    refine WS_AssignT2 ?_
    specialize "w"
    refine c_law_body ⟨rfl, rfl, by decide⟩ hv fun o d ho hd hod => ?_
    have hd' : (H1.set o (.list (nints (bodyOf v)))) d = none := (AHeap.set_ne _ _ (Ne.symm hod)).trans hd
    refine ⟨_, _, .list (AHeap.set_same _ _ _), ?_⟩
    specialize "w"
    refine c_law_varint (N := kindOf v) ⟨rfl, rfl, by decide⟩ (by lia) fun e1 he1 => ?_
    specialize "w"
    refine add_listN (look_new he1 (look_new hd' (look_new ho lk))) (AHeap.set_same _ _ _) (by show _ ≤ 16777216; lia) fun f hf => ?_
    specialize "w"
    refine add_listN (look_new hf (look_new he1 (look_new hd' (look_new ho lb)))) (look_new hf (look_new he1 (look_new hd' (AHeap.set_same _ _ _)))) (by show _ ≤ 16777216; lia) fun g hg => ?_
    specialize "w"
    have s3 := sub_new (o := .list (nints (varint (kindOf v)))) (sub_new (o := .list [.int (kindOf v : Nat), .ref o]) (sub_new (o := .list (nints (bodyOf v))) sH ho) hd') he1
    have eT : recT done ++ varint (kindOf v) = recT (done ++ [v]) := by rw [recT_split]; unfold recT; simp
    have eB : recB done ++ bodyOf v = recB (done ++ [v]) := by rw [recB_split]; unfold recB; simp
    rw [eT] at hg ⊢
    rw [eB]
    have s4 := s3.set f (.list (nints (recT (done ++ [v]))))
    exact ⟨_, s4.set g (.list (nints (recB (done ++ [v])))), done ++ [v], f, g, _, _, _, by rw [← hds]; simp, s3.none hf, s4.none hg, rfl, rfl⟩
  · rintro m H' ⟨done, k, b, t1, t2, t3, hds, hk, hb, rfl, rfl⟩
    rw [List.append_nil] at hds
    subst hds
    have g1 := r.t
    have g2 := r.b
    have lk : ((H.set k (.list (nints (recT done)))).set b (.list (nints (recB done)))) k = some (.list (nints (recT done))) := look_new hb (AHeap.set_same _ _ _)
    have lb : ((H.set k (.list (nints (recT done)))).set b (.list (nints (recB done)))) b = some (.list (nints (recB done))) := AHeap.set_same _ _ _
    have sH : H.Sub ((H.set k (.list (nints (recT done)))).set b (.list (nints (recB done)))) := sub_new (sub_new (.refl H) hk) hb
    generalize ((H.set k (.list (nints (recT done)))).set b (.list (nints (recB done)))) = H1 at lk lb sH
    have tail : ∀ (G : AHeap), H1.Sub G → WSs (FG (scopeAt 39) 2) c' [stmtOf (bodyAt 39) 4] (retQ Q) noX [(Str.ofString "values", some (.ref a)), (Str.ofString "kinds", some (.ref k)), (Str.ofString "bodies", some (.ref b)), (Str.ofString "value", t1), (Str.ofString "kind", t2), (Str.ofString "octets", t3), (Str.ofString "size", some (.int (headSize (recT done).length : Nat)))] G := by
      intro G sG
      have hE : headSize (recT done).length < 16000 := by unfold headSize; split <;> lia
      have g3 := varint_length_le (headSize (recT done).length)
      conv => arg 3; arg 1; whnf
      specialize "w"
      refine c_law_varint (N := headSize (recT done).length) ⟨rfl, rfl, by decide⟩ (by lia) fun e1 he1 => ?_
      specialize "w"
      refine add_listN (AHeap.set_same _ _ _) (look_new he1 (sG.at lk)) (by show _ ≤ 16777216; lia) fun f hf => ?_
      specialize "w"
      refine add_listN (AHeap.set_same _ _ _) (look_new hf (look_new he1 (sG.at lb))) (by rw [List.length_append]; show _ ≤ 16777216; lia) fun g hg => ?_
      specialize "w"
      have s1 := sub_new (o := .list (nints (varint (headSize (recT done).length) ++ recT done))) (sub_new (o := .list (nints (varint (headSize (recT done).length)))) (sH.trans sG) he1) hf
      exact ⟨_, s1.set g (.list (nints (record done))), h g (s1.none hg)⟩
    specialize "w"
    refine len_listN lk (by show _ ≤ 16777216; lia) ?_
    specialize "w"
    refine op_addN 1 ?_
    specialize "w"
    refine c_law_varint (N := (recT done).length + 1) ⟨rfl, rfl, by decide⟩ (by lia) fun e1 he1 => ?_
    specialize "w"
    refine len_listN (AHeap.set_same _ _ _) (by have := varint_length_le ((recT done).length + 1); show _ ≤ 16777216; lia) ?_
    specialize "w"
    refine br (fun q => ?_) fun q => ?_
    · have hE : headSize (recT done).length = (recT done).length + 1 + 1 := by
        unfold headSize
        rw [if_neg (fun q2 => by rw [varint_one q2] at q; simp at q)]
      specialize "w"
      refine op_addN 1 ?_
      specialize "S"
      specialize "S"
      specialize "S"
      rw [← hE]
      exact tail _ (sub_new (.refl _) he1)
    · have hE : headSize (recT done).length = (recT done).length + 1 := by
        unfold headSize
        rw [if_pos]
        refine Nat.lt_of_not_le fun q2 => q ?_
        have := varint_many (n := (recT done).length + 1) (by lia)
        lia
      specialize "S"
      specialize "S"
      rw [← hE]
      exact tail _ (sub_new (.refl _) he1)
theorem c_law_types_right {F : FC} {c : Cx} {X : XP} {m : Loc} {H : AHeap} {a : Addr} {vs : List AV} {Q : AV → AHeap → Prop} (ok : FOk F 3) (e : H a = some (.list vs)) (r : Row vs)
    (h : Q (.bool true) H) : WCall F c (.ref 281) [.ref a] Q X m H := by
  refine body_law_types_right ok fun c' hw => ?_
  conv => arg 3; whnf
  specialize "w"
  refine WS_For ?_
  specialize "w"
  refine ⟨_, _, _, .list (xs := vs) e, .refl _, ?_⟩
  refine WLoop_ind asgN_mono (fun rs m H' => ∃ (done : List AV) (t1 t2 t3 : Option AV), done ++ rs = vs ∧ m = [(Str.ofString "values", some (.ref a)), (Str.ofString "value", t1), (Str.ofString "kind", t2), (Str.ofString "octets", t3)] ∧ H' = H) ?_ ?_ ?_ ⟨[], none, none, none, rfl, rfl, rfl⟩
  · rintro rs m H' ⟨done, t1, t2, t3, hds, rfl, rfl⟩
    exact e
  · rintro v rs m H' ⟨done, t1, t2, t3, hds, rfl, rfl⟩
    have hv : VOk v := r.ok v (by rw [← hds]; simp)
    have g4 := bodyOf_length hv
    specialize "S"
    refine WF.shrink ?_
    specialize "w"
    refine WS_AssignT2 ?_
    specialize "w"
    refine c_law_body ⟨rfl, rfl, by decide⟩ hv fun o d ho hd hod => ?_
    have hd' : (H'.set o (.list (nints (bodyOf v)))) d = none := (AHeap.set_ne _ _ (Ne.symm hod)).trans hd
    refine ⟨_, _, .list (AHeap.set_same _ _ _), ?_⟩
    specialize "w"
    refine c_serial_type ⟨rfl, rfl, by decide⟩ hv ?_
    specialize "w"
    refine brne (fun q => absurd rfl q) fun _ => ?_
    specialize "w"
    refine c_serial_size ⟨rfl, rfl, by decide⟩ (kindOf_ok hv) ?_
    rw [size_ok hv]
    specialize "w"
    refine len_listN (look_new hd' (AHeap.set_same _ _ _)) (by show _ ≤ 16777216; lia) ?_
    specialize "w"
    refine brne (fun q => absurd rfl q) fun _ => ?_
    specialize "w"
    exact ⟨H', sub_new (sub_new (.refl _) ho) hd', done ++ [v], _, _, _, by rw [← hds]; simp, rfl, rfl⟩
  · rintro m H' ⟨done, t1, t2, t3, hds, rfl, rfl⟩
    specialize "w"
    exact ⟨_, .refl _, h⟩
end
section
open PySem PySem.W PyProof.Rows
set_option Elab.async false
set_option linter.unusedVariables false
set_option maxRecDepth 100000
set_option maxHeartbeats 4000000

theorem numType_ok {i : Int} (h1 : -9223372036854775808 ≤ i) (h2 : i < 9223372036854775808) : numType i ≠ 7 := by
  unfold numType
  by_cases h0 : i = 0
  · rw [if_pos h0]; decide
  rw [if_neg h0]
  by_cases h3 : i = 1
  · rw [if_pos h3]; decide
  rw [if_neg h3]
  have e : ∀ j : Nat, kindFrom j 1 i = 7 ∨ kindFrom j 1 i = j := fun j => by
    show (if _ then j else 7) = 7 ∨ (if _ then j else 7) = j
    split
    · exact .inr rfl
    · exact .inl rfl
  have last : kindFrom 6 1 i = 6 := by
    have : (256 ^ sizeOfKind 6 / 2 : Nat) = 9223372036854775808 := by decide
    show (if -((256 ^ sizeOfKind 6 / 2 : Nat) : Int) ≤ i ∧ i < ((256 ^ sizeOfKind 6 / 2 : Nat) : Int) then 6 else 7) = 6
    rw [this, if_pos ⟨by omega, by omega⟩]
  have step : ∀ (k j : Nat), kindFrom j k i ≠ 7 → kindFrom j k i = kindFrom j k i := fun _ _ _ => rfl
  have up : ∀ (k j : Nat), j ≠ 7 → kindFrom (j + 1) k i ≠ 7 → kindFrom j (k + 1) i ≠ 7 := fun k j hj h => by
    show (if _ then j else kindFrom (j + 1) k i) ≠ 7
    split
    · exact hj
    · exact h
  exact up 5 1 (by decide) (up 4 2 (by decide) (up 3 3 (by decide) (up 2 4 (by decide) (up 1 5 (by decide) (by rw [last]; decide)))))
theorem c_law_number {F : FC} {c : Cx} {X : XP} {m : Loc} {H : AHeap} {s : Addr} {Q : AV → AHeap → Prop} (ok : FOk F 3) (e : SrcAt H s)
    (h : ∀ (i : Int) (B Y : Nat), -9223372036854775808 ≤ i → i < 9223372036854775808 → Y < 2147483647 → Q (.int i) (H.set s (src B Y))) : WCall F c (.ref 248) [.ref s] Q X m H := by
  have es : ∃ o, H s = some o := let ⟨_, _, e, _⟩ := e; ⟨_, e⟩
  refine body_law_number ok fun c' hw => ?_
  conv => arg 3; whnf
  specialize "w"
  intro t ht
  specialize "w"
  obtain ⟨o, es⟩ := es
  have hts : t ≠ s := fun q => by rw [q, es] at ht; cases ht
  have e' : SrcAt (H.set t (.list (nints [0, 3, 7, 8, 14, 15, 16, 21, 23, 24, 28, 31, 32, 35, 42, 47, 48, 49, 56, 62, 63]))) s := let ⟨B, Y, e1, e2⟩ := e; ⟨B, Y, look_new ht e1, e2⟩
  refine c_law_one (xs := nints [0, 3, 7, 8, 14, 15, 16, 21, 23, 24, 28, 31, 32, 35, 42, 47, 48, 49, 56, 62, 63]) ⟨rfl, rfl, by decide⟩ e' (AHeap.set_same _ _ _) hts (by decide) (by decide) fun v B Y hv hY => ?_
  obtain ⟨k, hk, rfl⟩ := List.mem_map.mp hv
  have hk63 : k ≤ 63 := by
    have : ∀ x ∈ [0, 3, 7, 8, 14, 15, 16, 21, 23, 24, 28, 31, 32, 35, 42, 47, 48, 49, 56, 62, 63], x ≤ 63 := by decide
    exact this k hk
  refine op_powN 2 k (2 ^ k) ?_ rfl rfl rfl (by decide) (by omega)
  specialize "S"
  specialize "S"
  generalize 2 ^ k = P
  refine WF.weak (H' := H.set s (src B Y)) ?_ ?_
  · intro b p q
    by_cases hb : b = s
    · subst hb; rw [AHeap.set_same] at q ⊢; exact q
    · rw [AHeap.set_ne _ _ hb] at q ⊢
      exact (sub_new (AHeap.Sub.refl H) ht) b p q
  specialize "w"
  refine c_law_take (top := 5) ⟨rfl, rfl, by decide⟩ ⟨B, Y, AHeap.set_same _ _ _, hY⟩ (by decide) (by decide) fun r B Y hr hY => ?_
  rw [AHeap.set_set]
  refine op_addN r ?_
  specialize "w"
  refine op_sub ?_
  generalize ((P + r : Nat) : Int) - 2 = near
  specialize "w"
  refine c_law_take (top := 2) ⟨rfl, rfl, by decide⟩ ⟨B, Y, AHeap.set_same _ _ _, hY⟩ (by decide) (by decide) fun r2 B Y hr hY => ?_
  rw [AHeap.set_set]
  specialize "w"
  have tail : ∀ (near : Int), WSs (FG (scopeAt 40) 3) c' [stmtOf (bodyAt 40) 3] (retQ Q) noX [(Str.ofString "source", some (.ref s)), (Str.ofString "power", some (.int (P : Nat))), (Str.ofString "near", some (.int near))] (H.set s (src B Y)) := by
    intro near
    conv => arg 3; arg 1; whnf
    specialize "w"
    refine op_powN 2 63 9223372036854775808 ?_
    specialize "w"
    refine op_powN 2 63 9223372036854775808 ?_
    specialize "w"
    refine op_sub ?_
    specialize "w"
    refine min_int ?_
    specialize "w"
    refine max_int ?_
    specialize "w"
    refine ⟨_, .refl _, h _ B Y ?_ ?_ hY⟩
    · omega
    · omega
  refine breq (fun q => ?_) fun q => ?_
  · specialize "E"
    specialize "S"
    specialize "S"
    exact tail _
  · specialize "E"
    specialize "E"
    specialize "O"
    specialize "S"
    specialize "S"
    exact tail _
theorem cb0 (s : Str) : (s.cps.toList == s.cps.toList) = true := by simp
theorem c_law_alike {F : FC} {c : Cx} {X : XP} {m : Loc} {H : AHeap} {v : AV} {Q : AV → AHeap → Prop} (ok : FOk F 1) (hv : v.plain = true) (h : Q (.bool true) H) : WCall F c (.ref 267) [v, v] Q X m H := by
  refine body_law_alike ok fun c' hw => ?_
  conv => arg 3; whnf
  specialize "w"
  cases v with
  | none =>
    refine ift ?_
    specialize "w"
    refine ift ?_
    specialize "w"
    exact ⟨_, .refl _, h⟩
  | int i =>
    refine iff' ?_
    specialize "w"
    refine iff' ?_
    specialize "w"
    refine isi_any rfl (by simp) ?_
    specialize "w"
    refine iff' ?_
    specialize "w"
    refine isi_any rfl (by simp) ?_
    specialize "w"
    refine iff' ?_
    specialize "w"
    refine isi_any rfl (by simp) ?_
    specialize "w"
    refine isi_any rfl (by simp) ?_
    specialize "w"
    refine iff' ?_
    specialize "w"
    refine isi_any rfl (by simp) ?_
    specialize "w"
    refine isi_any rfl (by simp) ?_
    specialize "w"
    refine ift ?_
    specialize "w"
    rw [beq_self_eq_true]
    exact ⟨_, .refl _, h⟩
  | str s =>
    refine iff' ?_
    specialize "w"
    refine iff' ?_
    specialize "w"
    refine isi_any rfl (by simp) ?_
    specialize "w"
    refine iff' ?_
    specialize "w"
    refine isi_any rfl (by simp) ?_
    specialize "w"
    refine iff' ?_
    specialize "w"
    refine isi_any rfl (by simp) ?_
    specialize "w"
    refine isi_any rfl (by simp) ?_
    specialize "w"
    refine iff' ?_
    specialize "w"
    refine isi_any rfl (by simp) ?_
    specialize "w"
    refine isi_any rfl (by simp) ?_
    specialize "w"
    refine ift ?_
    specialize "w"
    rw [cb0]
    exact ⟨_, .refl _, h⟩
  | bytes b =>
    refine iff' ?_
    specialize "w"
    refine iff' ?_
    specialize "w"
    refine isi_any rfl (by simp) ?_
    specialize "w"
    refine iff' ?_
    specialize "w"
    refine isi_any rfl (by simp) ?_
    specialize "w"
    refine iff' ?_
    specialize "w"
    refine isi_any rfl (by simp) ?_
    specialize "w"
    refine isi_any rfl (by simp) ?_
    specialize "w"
    refine iff' ?_
    specialize "w"
    refine isi_any rfl (by simp) ?_
    specialize "w"
    refine isi_any rfl (by simp) ?_
    specialize "w"
    refine ift ?_
    specialize "w"
    rw [show decide (b = b) = true by simp]
    exact ⟨_, .refl _, h⟩
  | _ => cases hv
end
section
open PySem PySem.W PyProof.Rows
set_option Elab.async false
set_option linter.unusedVariables false
set_option maxRecDepth 100000
set_option maxHeartbeats 4000000

def Frame (s : Addr) (H G : AHeap) : Prop := ∀ x p, x ≠ s → H x = some p → G x = some p
theorem Frame.refl (s : Addr) (H : AHeap) : Frame s H H := fun _ _ _ e => e
theorem Frame.new {s a : Addr} {H G : AHeap} (h : Frame s H G) {o : AObj} (n : G a = none) : Frame s H (G.set a o) := fun x p hx e => look_new n (h x p hx e)
theorem Frame.src {s : Addr} {H G : AHeap} (h : Frame s H G) (o : AObj) : Frame s H (G.set s o) := fun x p hx e => (AHeap.set_ne _ _ hx).trans (h x p hx e)
theorem Frame.own {s a : Addr} {H G : AHeap} (h : Frame s H G) (o : AObj) (n : H a = none) : Frame s H (G.set a o) := fun x p hx e => (AHeap.set_ne _ _ (fun q => by rw [q, n] at e; cases e)).trans (h x p hx e)
theorem Frame.sub {s : Addr} {H G : AHeap} (h : Frame s H G) {o : AObj} (e : G s = some o) : (H.set s o).Sub G := fun x p q => by
  by_cases hx : x = s
  · subst hx; rw [AHeap.set_same] at q; rw [e]; exact q
  · rw [AHeap.set_ne _ _ hx] at q; exact h x p hx q
theorem Frame.none {s a : Addr} {H G : AHeap} (h : Frame s H G) (hs : a ≠ s) (n : G a = Option.none) : H a = Option.none := by
  cases q : H a with
  | none => rfl
  | some p => rw [h a p hs q] at n; cases n
section
variable {F : FC} {c : Cx} {X : XP} {m : Loc} {H : AHeap}
theorem cmp_ne_listsN {a b : Addr} {ns ms : List Nat} {Q : Bool → AHeap → Prop} (e1 : H a = some (.list (nints ns))) (e2 : H b = some (.list (nints ms))) (h : Q (!decide (ns = ms)) H) : WCmp F c .NotEq (.ref a) (.ref b) Q X m H := by
  rw [nints_zints] at e1 e2
  refine cmp_ne_lists e1 e2 ?_
  have : (ns.map Int.ofNat = ms.map Int.ofNat) ↔ ns = ms := List.map_inj_right fun x y h => Int.ofNat.inj h
  rw [show decide (ns.map Int.ofNat = ms.map Int.ofNat) = decide (ns = ms) from decide_eq_decide.mpr this]
  exact h
end
def vflat (l : List Nat) : List Nat := l.flatMap varint
theorem vflat_split (a b : List Nat) : vflat (a ++ b) = vflat a ++ vflat b := List.flatMap_append
theorem vflat_length : ∀ l : List Nat, (vflat l).length ≤ 9 * l.length
  | [] => Nat.le_refl _
  | v :: l => by
    have := vflat_length l
    have := varint_length_le v
    show (varint v ++ vflat l).length ≤ _
    rw [List.length_append, List.length_cons]; lia
theorem vflat_lt (l : List Nat) : ∀ n ∈ vflat l, n < 256 := by
  intro n hn
  obtain ⟨v, _, hn⟩ := List.mem_flatMap.mp hn
  exact varint_lt _ n hn
theorem c_law_varints_right {F : FC} {c : Cx} {X : XP} {m : Loc} {H : AHeap} {s : Addr} {Q : AV → AHeap → Prop} (ok : FOk F 4) (e : SrcAt H s)
    (h : ∀ B Y : Nat, Y < 2147483647 → Q (.bool true) (H.set s (src B Y))) : WCall F c (.ref 260) [.ref s] Q X m H := by
  refine body_law_varints_right ok fun c' hw => ?_
  conv => arg 3; whnf
  specialize "w"
  refine WS_AssignS2 ?_ ?hw
  case hw => intro env he; obtain ⟨⟩ := env; cases he; kernel_rfl
  specialize "w"
  intro o0 ho0
  specialize "w"
  intro n hn
  specialize "w"
  refine ⟨_, _, rfl, ?_⟩
  specialize "w"
  have hn0 : H n = none := (AHeap.set_none hn).2
  obtain ⟨B0, Y0, es, hY0⟩ := e
  have hns : n ≠ s := fun q => by rw [q, es] at hn0; cases hn0
  refine WS_For ?_
  specialize "w"
  refine range1 fun e1 he1 => ?_
  refine rng_k 0 5 he1 ?_
  refine WLoop_ind asgN_mono (fun r m G => ∃ (k j : Nat) (nums : List Nat) (o : Addr) (tv nv : Option AV), r = rg j k ∧ nums.length + k = 5 ∧ (∀ x ∈ nums, x < 18446744073709551616) ∧
      m = [(Str.ofString "source", some (.ref s)), (Str.ofString "octets", some (.ref o)), (Str.ofString "numbers", some (.ref n)), (Str.ofString "turn", tv), (Str.ofString "number", nv), (Str.ofString "row", none), (Str.ofString "at", none), (Str.ofString "told", none)] ∧
      Frame s H G ∧ SrcAt G s ∧ G n = some (.list (nints nums)) ∧ G o = some (.list (nints (vflat nums))) ∧ o ≠ n ∧ o ≠ s) (fun _ _ _ _ => trivial) ?_ ?_
    ⟨5, 0, [], o0, none, none, rfl, rfl, by simp, rfl, (((Frame.refl s H).new ho0).new hn), ⟨B0, Y0, look_new hn (look_new ho0 es), hY0⟩, AHeap.set_same _ _ _, look_new hn (AHeap.set_same _ _ _), AHeap.ne_of hn (AHeap.set_same _ _ _), fun q => by rw [q, es] at ho0; cases ho0⟩
  · rintro v r m G ⟨k, j, nums, o, tv, nv, e, hlen, hall, rfl, fr, hsrc, ln, lo, hon, hos⟩
    obtain ⟨k, rfl, rfl, rfl⟩ := rg_cons e
    have hvl := vflat_length nums
    specialize "w"
    refine c_law_number ⟨rfl, rfl, by decide⟩ hsrc fun i B Y _ _ hY => ?_
    specialize "w"
    refine op_powN 2 64 18446744073709551616 ?_
    with_reducible refine' op_mod ?_ ?_
    · decide
    obtain ⟨N, hN⟩ : ∃ N : Nat, i % ((18446744073709551616 : Nat) : Int) = N := ⟨(i % ((18446744073709551616 : Nat) : Int)).toNat, by lia⟩
    rw [hN]
    have hNlt : N < 18446744073709551616 := by lia
    have hNm : (N : Int) % 18446744073709551616 = N := by lia
    have g9 := varint_length_le N
    specialize "w"
    refine call_appendN N ((AHeap.set_ne _ _ hns).trans ln) (by show _ ≤ 16777216; lia) ?_
    have fr2 : Frame s H ((G.set s (src B Y)).set n (.list (nints (nums ++ [N])))) := (fr.src _).own _ hn0
    have src2 : SrcAt ((G.set s (src B Y)).set n (.list (nints (nums ++ [N])))) s := ⟨B, Y, (AHeap.set_ne _ _ (Ne.symm hns)).trans (AHeap.set_same _ _ _), hY⟩
    have ln2 : ((G.set s (src B Y)).set n (.list (nints (nums ++ [N])))) n = some (.list (nints (nums ++ [N]))) := AHeap.set_same _ _ _
    have lo2 : ((G.set s (src B Y)).set n (.list (nints (nums ++ [N])))) o = some (.list (nints (vflat nums))) := (AHeap.set_ne _ _ hon).trans ((AHeap.set_ne _ _ hos).trans lo)
    generalize ((G.set s (src B Y)).set n (.list (nints (nums ++ [N])))) = G2 at fr2 src2 ln2 lo2
    specialize "w"
    refine c_put_varint (N := N) ⟨rfl, rfl, by decide⟩ hNm ?_
    specialize "w"
    refine list_bytes (by show _ ≤ 16777216; lia) fun d1 hd1 => ?_
    specialize "w"
    refine c_law_varint (N := N) ⟨rfl, rfl, by decide⟩ hNm fun d2 hd2 => ?_
    specialize "w"
    refine cmp_ne_listsN (look_new hd2 (AHeap.set_same _ _ _)) (AHeap.set_same _ _ _) ?_
    refine brn (fun q => absurd rfl q) fun _ => ?_
    specialize "w"
    refine op_powN 2 64 18446744073709551616 ?_
    refine op_sub ?_
    specialize "w"
    refine c_put_varint (N := N) ⟨rfl, rfl, by decide⟩ (by lia) ?_
    specialize "w"
    refine list_bytes (by show _ ≤ 16777216; lia) fun d3 hd3 => ?_
    specialize "w"
    refine c_law_varint (N := N) ⟨rfl, rfl, by decide⟩ hNm fun d4 hd4 => ?_
    specialize "w"
    refine cmp_ne_listsN (look_new hd4 (AHeap.set_same _ _ _)) (AHeap.set_same _ _ _) ?_
    refine brn (fun q => absurd rfl q) fun _ => ?_
    have fr6 := (((fr2.new (o := .list (nints (varint N))) hd1).new (o := .list (nints (varint N))) hd2).new (o := .list (nints (varint N))) hd3).new (o := .list (nints (varint N))) hd4
    obtain ⟨B2, Y2, es2, hY2⟩ := src2
    have src6 := look_new (o := .list (nints (varint N))) hd4 (look_new (o := .list (nints (varint N))) hd3 (look_new (o := .list (nints (varint N))) hd2 (look_new (o := .list (nints (varint N))) hd1 es2)))
    have ln6 := look_new (o := .list (nints (varint N))) hd4 (look_new (o := .list (nints (varint N))) hd3 (look_new (o := .list (nints (varint N))) hd2 (look_new (o := .list (nints (varint N))) hd1 ln2)))
    have lo6 := look_new (o := .list (nints (varint N))) hd4 (look_new (o := .list (nints (varint N))) hd3 (look_new (o := .list (nints (varint N))) hd2 (look_new (o := .list (nints (varint N))) hd1 lo2)))
    generalize (((G2.set d1 (.list (nints (varint N)))).set d2 (.list (nints (varint N)))).set d3 (.list (nints (varint N)))).set d4 (.list (nints (varint N))) = G6 at fr6 src6 ln6 lo6
    specialize "w"
    refine c_signed ⟨rfl, rfl, by decide⟩ ?_
    specialize "w"
    refine op_powN 2 63 9223372036854775808 ?_
    specialize "w"
    have tail : ∀ (I : Loc → AHeap → Prop), (∀ G' f tv, Frame s H G' → SrcAt G' s → G' n = some (.list (nints (nums ++ [N]))) → G' f = some (.list (nints (vflat (nums ++ [N])))) → f ≠ n → f ≠ s →
        I [(Str.ofString "source", some (.ref s)), (Str.ofString "octets", some (.ref f)), (Str.ofString "numbers", some (.ref n)), (Str.ofString "turn", tv), (Str.ofString "number", some (.int (N : Nat))), (Str.ofString "row", none), (Str.ofString "at", none), (Str.ofString "told", none)] G') →
        ∀ tv Q', WSs (FG (scopeAt 42) 4) c' [stmtOf (forBody (stmtOf (bodyAt 42) 1)) 4] (loopQ I Q') noX [(Str.ofString "source", some (.ref s)), (Str.ofString "octets", some (.ref o)), (Str.ofString "numbers", some (.ref n)), (Str.ofString "turn", tv), (Str.ofString "number", some (.int (N : Nat))), (Str.ofString "row", none), (Str.ofString "at", none), (Str.ofString "told", none)] G6 := by
      intro I hI tv Q'
      conv => arg 3; arg 1; whnf
      specialize "w"
      refine c_law_varint (N := N) ⟨rfl, rfl, by decide⟩ hNm fun d5 hd5 => ?_
      refine add_listN (look_new hd5 lo6) (AHeap.set_same _ _ _) (by show _ ≤ 16777216; lia) fun f hf => ?_
      rw [show vflat nums ++ varint N = vflat (nums ++ [N]) by rw [vflat_split]; unfold vflat; simp]
      specialize "w"
      have ln7 := look_new hf (look_new hd5 ln6) (o := .list (nints (vflat (nums ++ [N]))))
      have src7 := look_new hf (look_new hd5 src6) (o := .list (nints (vflat (nums ++ [N]))))
      exact hI _ f _ ((fr6.new hd5).new hf) ⟨B2, Y2, src7, hY2⟩ ln7 (AHeap.set_same _ _ _) (fun q => by have := look_new hd5 ln6 (o := .list (nints (varint N))); rw [q, this] at hf; cases hf) (fun q => by have := look_new hd5 src6 (o := .list (nints (varint N))); rw [q, this] at hf; cases hf)
    have hI : ∀ G' f tv, Frame s H G' → SrcAt G' s → G' n = some (.list (nints (nums ++ [N]))) → G' f = some (.list (nints (vflat (nums ++ [N])))) → f ≠ n → f ≠ s →
        ∃ (k' j' : Nat) (nums' : List Nat) (o : Addr) (tv' nv : Option AV), rg (j + 1) k = rg j' k' ∧ nums'.length + k' = 5 ∧ (∀ x ∈ nums', x < 18446744073709551616) ∧
          [(Str.ofString "source", some (.ref s)), (Str.ofString "octets", some (.ref f)), (Str.ofString "numbers", some (.ref n)), (Str.ofString "turn", tv), (Str.ofString "number", some (AV.int (N : Nat))), (Str.ofString "row", none), (Str.ofString "at", none), (Str.ofString "told", none)] = [(Str.ofString "source", some (.ref s)), (Str.ofString "octets", some (.ref o)), (Str.ofString "numbers", some (.ref n)), (Str.ofString "turn", tv'), (Str.ofString "number", nv), (Str.ofString "row", none), (Str.ofString "at", none), (Str.ofString "told", none)] ∧
          Frame s H G' ∧ SrcAt G' s ∧ G' n = some (.list (nints nums')) ∧ G' o = some (.list (nints (vflat nums'))) ∧ o ≠ n ∧ o ≠ s := fun G' f tv a1 a2 a3 a4 a5 a6 =>
      ⟨k, j + 1, nums ++ [N], f, _, _, rfl, by simp; lia, fun x hx => by rcases List.mem_append.mp hx with q | q; exact hall x q; rw [List.mem_singleton.mp q]; exact hNlt, rfl, a1, a2, a3, a4, a5, a6⟩
    with_reducible refine' br (fun hc => ?_) fun hc => ?_
    · specialize "E"
      specialize "O"
      refine brne (fun q => ?_) fun q => ?_
      · rw [if_pos (by lia)] at q; exact absurd rfl q
      specialize "S"
      specialize "S"
      exact tail _ hI _ _
    · specialize "w"
      refine op_powN 2 64 18446744073709551616 ?_
      refine op_sub ?_
      specialize "O"
      refine brne (fun q => ?_) fun q => ?_
      · rw [if_neg (by lia)] at q; exact absurd rfl q
      specialize "S"
      specialize "S"
      exact tail _ hI _ _
  · rintro m G ⟨k, j, nums, o, tv, nv, e, hlen, hall, rfl, fr, hsrc, ln, lo, hon, hos⟩
    obtain rfl := rg_nil e
    have hvl := vflat_length nums
    specialize "w"
    refine WS_AssignS2 ?_ ?hw
    case hw => intro env he; obtain ⟨⟩ := env; cases he; kernel_rfl
    specialize "w"
    intro a1 ha1
    specialize "w"
    refine add_listN (xs := [7, 7]) (AHeap.set_same _ _ _) (look_new ha1 lo) (by show _ ≤ 16777216; simp; lia) fun a2 ha2 => ?_
    specialize "w"
    intro a3 ha3
    specialize "w"
    refine add_listN (ys := [255]) (look_new ha3 (AHeap.set_same _ _ _)) (AHeap.set_same _ _ _) (by show _ ≤ 16777216; simp; lia) fun a4 ha4 => ?_
    specialize "w"
    have hRz : ([7, 7] ++ vflat nums ++ [255]).length ≤ bigLine := by show _ ≤ 16777216; simp; lia
    have hRb : ∀ x ∈ [7, 7] ++ vflat nums ++ [255], x < 256 := by
      intro x hx
      rcases List.mem_append.mp hx with q | q
      · rcases List.mem_append.mp q with q | q
        · simp at q; lia
        · exact vflat_lt _ x q
      · simp at q; lia
    refine bytes_list (AHeap.set_same _ _ _) hRb hRz ?_
    specialize "w"
    refine ⟨_, _, rfl, ?_⟩
    specialize "w"
    obtain ⟨B, Y, es, hY⟩ := hsrc
    have fr' := (((fr.new (o := .list (nints [7, 7])) ha1).new (o := .list (nints ([7, 7] ++ vflat nums))) ha2).new (o := .list (nints [255])) ha3).new (o := .list (nints ([7, 7] ++ vflat nums ++ [255]))) ha4
    have es' := look_new (o := .list (nints ([7, 7] ++ vflat nums ++ [255]))) ha4 (look_new (o := .list (nints [255])) ha3 (look_new (o := .list (nints ([7, 7] ++ vflat nums))) ha2 (look_new (o := .list (nints [7, 7])) ha1 es)))
    have ln' := look_new (o := .list (nints ([7, 7] ++ vflat nums ++ [255]))) ha4 (look_new (o := .list (nints [255])) ha3 (look_new (o := .list (nints ([7, 7] ++ vflat nums))) ha2 (look_new (o := .list (nints [7, 7])) ha1 ln)))
    have lo' := look_new (o := .list (nints ([7, 7] ++ vflat nums ++ [255]))) ha4 (look_new (o := .list (nints [255])) ha3 (look_new (o := .list (nints ([7, 7] ++ vflat nums))) ha2 (look_new (o := .list (nints [7, 7])) ha1 lo)))
    refine WS_For ?_
    specialize "w"
    refine ⟨_, _, _, .list (xs := nints nums) ln', .refl _, ?_⟩
    refine WLoop_ind asgN_mono (fun rs m G' => ∃ (done rest : List Nat) (nv tv2 : Option AV), rs = nints rest ∧ done ++ rest = nums ∧
      m = [(Str.ofString "source", some (.ref s)), (Str.ofString "octets", some (.ref o)), (Str.ofString "numbers", some (.ref n)), (Str.ofString "turn", tv), (Str.ofString "number", nv), (Str.ofString "row", some (.bytes ([7, 7] ++ vflat nums ++ [255]))), (Str.ofString "at", some (.int (2 + (vflat done).length : Nat))), (Str.ofString "told", tv2)] ∧
      Frame s H G' ∧ G' s = some (src B Y) ∧ G' n = some (.list (nints nums)) ∧ G' o = some (.list (nints (vflat nums)))) ?_ ?_ ?_ ⟨[], nums, _, none, rfl, rfl, rfl, fr', es', ln', lo'⟩
    · rintro rs m G' ⟨done, rest, nv, tv2, _, _, _, _, _, h4, _⟩
      exact h4
    · rintro v rs m G' ⟨done, rest, nv, tv2, hrs, hds, rfl, fr, es, ln, lo⟩
      cases rest with
      | nil => cases hrs
      | cons x rest =>
        injection hrs with h1 h2
        subst h1 h2
        have hx := hall x (by rw [← hds]; simp)
        have hrow : [7, 7] ++ vflat nums ++ [255] = ([7, 7] ++ vflat done) ++ (varint x ++ (vflat rest ++ [255])) := by
          rw [← hds, vflat_split]
          show [7, 7] ++ (vflat done ++ (varint x ++ vflat rest)) ++ [255] = _
          simp
        have hget : getV 9 0 (([7, 7] ++ vflat nums ++ [255]).drop (2 + (vflat done).length)) (2 + (vflat done).length) = some (x, 2 + (vflat done).length + (varint x).length) := by
          rw [hrow, drop_pre (by simp; lia)]
          exact getV_varint hx _ _
        have g9 := varint_length_le x
        specialize "w"
        refine c_get_varint ⟨rfl, rfl, by decide⟩ hRz hRb hget fun d hd => ?_
        specialize "w"
        refine sub_tup (i := 0) (AHeap.set_same _ _ _) rfl (Nat.zero_le _) ?_
        specialize "w"
        refine brne (fun q => absurd rfl q) fun _ => ?_
        specialize "w"
        refine sub_tup (i := 1) (AHeap.set_same _ _ _) rfl (by show 1 ≤ 16777216; lia) ?_
        specialize "w"
        refine c_law_varint (N := x) ⟨rfl, rfl, by decide⟩ (by lia) fun d2 hd2 => ?_
        specialize "w"
        refine len_listN (AHeap.set_same _ _ _) (by show _ ≤ 16777216; lia) ?_
        refine op_addN (varint x).length ?_
        specialize "w"
        refine brne (fun q => absurd rfl q) fun _ => ?_
        specialize "w"
        refine sub_tup (i := 1) (look_new hd2 (AHeap.set_same _ _ _)) rfl (by show 1 ≤ 16777216; lia) ?_
        specialize "w"
        have e7 : 2 + (vflat done).length + (varint x).length = 2 + (vflat (done ++ [x])).length := by
          rw [vflat_split, List.length_append, show vflat [x] = varint x by unfold vflat; simp]; lia
        rw [e7] at hd2 ⊢
        exact ⟨done ++ [x], rest, _, _, rfl, by rw [← hds]; simp, rfl, (fr.new hd).new hd2, look_new hd2 (look_new hd es), look_new hd2 (look_new hd ln), look_new hd2 (look_new hd lo)⟩
    · rintro m G' ⟨done, rest, nv, tv2, hrs, hds, rfl, fr, es, ln, lo⟩
      have hre : rest = [] := by
        cases rest with
        | nil => rfl
        | cons v rest => cases hrs
      subst hre
      rw [List.append_nil] at hds
      subst hds
      specialize "w"
      refine len_listN lo (by show _ ≤ 16777216; lia) ?_
      refine op_addL 2 ?_
      specialize "w"
      rw [beq_self_eq_true]
      exact ⟨_, fr.sub es, h B Y hY⟩
end
section
open PySem PySem.W PyProof.Rows
set_option Elab.async false
set_option linter.unusedVariables false
set_option maxRecDepth 100000
set_option maxHeartbeats 4000000

inductive Places (H : AHeap) (n : Nat) : AV → Prop
  | range {p : Addr} (e : H p = some (.range 0 (n : Nat))) : Places H n (.ref p)
  | list {p : Addr} {is : List Nat} (e : H p = some (.list (nints is))) (h : ∀ i ∈ is, i < n) : Places H n (.ref p)
theorem c_law_record_right {F : FC} {c : Cx} {X : XP} {m : Loc} {H : AHeap} {a : Addr} {p : AV} {vs : List AV} {Q : AV → AHeap → Prop} (ok : FOk F 5) (e : H a = some (.list vs)) (r : Row vs) (hp : Places H vs.length p)
    (h : Q (.bool true) H) : WCall F c (.ref 274) [.ref a, p] Q X m H := by
  have hz := r.z
  have hb := record_lt r.ok
  have hvl : vs.length ≤ bigLine := by have := r.len; show _ ≤ 16777216; lia
  refine body_law_record_right ok fun c' hw => ?_
  conv => arg 3; whnf
  specialize "w"
  refine c_law_record ⟨rfl, rfl, by decide⟩ e r fun d hd => ?_
  specialize "w"
  refine bytes_list (AHeap.set_same _ _ _) hb hz ?_
  specialize "S"
  specialize "S"
  refine WF.weak (sub_new (.refl H) hd) ?_
  specialize "w"
  refine c_encode_record ⟨rfl, rfl, by decide⟩ e r ?_
  specialize "w"
  refine bytes_bytes ?_
  specialize "w"
  refine brn (fun q => absurd rfl q) fun _ => ?_
  specialize "w"
  refine c_decode_record ⟨rfl, rfl, by decide⟩ r fun l hl => ?_
  have sl := sub_new (o := .list vs) (AHeap.Sub.refl H) hl
  have el := sl.at e
  have hp' : Places (H.set l (.list vs)) vs.length p := by
    cases hp with
    | range e => exact .range (sl.at e)
    | list e h => exact .list (sl.at e) h
  have ll : (H.set l (.list vs)) l = some (.list vs) := AHeap.set_same _ _ _
  generalize H.set l (.list vs) = G at sl el hp' ll
  specialize "w"
  refine isi_list ll ?_
  specialize "w"
  refine iff' ?_
  specialize "w"
  refine len_list ll hvl ?_
  specialize "w"
  refine len_list el hvl ?_
  specialize "w"
  refine brne (fun q => absurd rfl q) fun _ => ?_
  specialize "w"
  refine WS_For ?_
  specialize "w"
  refine len_list el hvl ?_
  specialize "w"
  refine range1 fun e1 he1 => ?_
  refine rng_k 0 vs.length he1 ?_ rfl (by rw [Nat.zero_add]) (by have := r.len; lia)
  refine WLoop_ind asgN_mono (fun rs m G' => ∃ (k j : Nat) (tv : Option AV), rs = rg j k ∧ j + k = vs.length ∧
    m = [(Str.ofString "values", some (.ref a)), (Str.ofString "places", some p), (Str.ofString "due", some (.bytes (record vs))), (Str.ofString "told", some (.ref l)), (Str.ofString "at", tv)] ∧ G = G') (fun _ _ _ _ => trivial) ?_ ?_ ⟨vs.length, 0, none, rfl, by lia, rfl, rfl⟩
  · rintro v rs m G' ⟨k, j, tv, hrs, hjk, rfl, rfl⟩
    obtain ⟨k, rfl, rfl, rfl⟩ := rg_cons hrs
    have hj : j < vs.length := by lia
    obtain ⟨x, hx⟩ : ∃ x, vs[j]? = some x := ⟨vs[j], List.getElem?_eq_getElem hj⟩
    have hxv := r.ok x (List.mem_of_getElem? hx)
    specialize "w"
    refine sub_list ll hx (by have := r.len; show _ ≤ 16777216; lia) ?_
    specialize "w"
    refine sub_list el hx (by have := r.len; show _ ≤ 16777216; lia) ?_
    specialize "w"
    refine c_law_alike ⟨rfl, rfl, by decide⟩ hxv.plain ?_
    specialize "w"
    refine iff' ?_
    specialize "w"
    exact ⟨k, j + 1, _, rfl, by lia, rfl, rfl⟩
  · rintro m G' ⟨k, j, tv, hrs, hjk, rfl, rfl⟩
    specialize "w"
    refine WS_For ?_
    specialize "w"
    have loop : ∀ (xs : List AV) (S : AHeap → Prop) (Q' : AFlow → Loc → AHeap → Prop), S G → (∀ v ∈ xs, ∃ i : Nat, i < vs.length ∧ v = .int (i : Nat)) → (∀ tv, Q' .next [(Str.ofString "values", some (.ref a)), (Str.ofString "places", some p), (Str.ofString "due", some (.bytes (record vs))), (Str.ofString "told", some (.ref l)), (Str.ofString "at", tv)] G) →
        WLoop (FG (scopeAt 44) 5) c' (asgN (Str.ofString "at")) (forBody (stmtOf (bodyAt 44) 5)) S Q' xs [(Str.ofString "values", some (.ref a)), (Str.ofString "places", some p), (Str.ofString "due", some (.bytes (record vs))), (Str.ofString "told", some (.ref l)), (Str.ofString "at", tv)] G := by
      intro xs S Q' hS hxs hfin
      conv => arg 4; whnf
      refine WLoop_ind asgN_mono (fun rs m G' => ∃ (tv : Option AV), (∀ v ∈ rs, v ∈ xs) ∧
        m = [(Str.ofString "values", some (.ref a)), (Str.ofString "places", some p), (Str.ofString "due", some (.bytes (record vs))), (Str.ofString "told", some (.ref l)), (Str.ofString "at", tv)] ∧ G = G') ?_ ?_ ?_ ⟨tv, fun _ h => h, rfl, rfl⟩
      · rintro rs m G' ⟨tv, _, _, rfl⟩
        exact hS
      · rintro v rs m G' ⟨tv, hin, rfl, rfl⟩
        obtain ⟨i, hi, rfl⟩ := hxs v (hin v List.mem_cons_self)
        obtain ⟨x, hx⟩ : ∃ x, vs[i]? = some x := ⟨vs[i], List.getElem?_eq_getElem hi⟩
        have hxv := r.ok x (List.mem_of_getElem? hx)
        specialize "w"
        refine c_record_column ⟨rfl, rfl, by decide⟩ r ?_
        rw [hx]
        specialize "w"
        refine sub_list el hx (by have := r.len; show _ ≤ 16777216; lia) ?_
        specialize "w"
        refine c_law_alike ⟨rfl, rfl, by decide⟩ hxv.plain ?_
        specialize "w"
        refine iff' ?_
        specialize "w"
        exact ⟨_, fun v hv => hin v (List.mem_cons_of_mem _ hv), rfl, rfl⟩
      · rintro m G' ⟨tv, _, rfl, rfl⟩
        exact hfin tv
    have fin : ∀ tv, seqQ (FG (scopeAt 44) 5) c' [stmtOf (bodyAt 44) 6] (retQ Q) noX .next [(Str.ofString "values", some (.ref a)), (Str.ofString "places", some p), (Str.ofString "due", some (.bytes (record vs))), (Str.ofString "told", some (.ref l)), (Str.ofString "at", tv)] G := by
      intro tv
      conv => arg 3; arg 1; whnf
      specialize "w"
      refine len_list el hvl ?_
      specialize "w"
      refine c_record_column ⟨rfl, rfl, by decide⟩ r ?_
      rw [List.getElem?_eq_none (Nat.le_refl _)]
      specialize "w"
      refine ift ?_
      specialize "w"
      refine len_list el hvl ?_
      specialize "w"
      refine op_addN 3 ?_
      specialize "w"
      refine c_record_column ⟨rfl, rfl, by decide⟩ r ?_
      rw [List.getElem?_eq_none (by lia)]
      specialize "w"
      exact ⟨_, sl, h⟩
    cases hp' with
    | @range p e =>
      refine ⟨_, _, _, .range e (by lia) (by lia) (by have := r.len; lia), .refl _, ?_⟩
      refine loop _ _ _ trivial (fun v hv => ?_) fin
      obtain ⟨i, hi, rfl⟩ := List.mem_map.mp hv
      have := List.mem_range.mp hi
      refine ⟨i, by lia, ?_⟩
      show AV.int _ = AV.int _
      congr 1
      lia
    | @list p is e hi =>
      refine ⟨_, _, _, .list e, .refl _, ?_⟩
      refine loop _ _ _ e (fun v hv => ?_) fin
      obtain ⟨i, hi', rfl⟩ := List.mem_map.mp hv
      exact ⟨i, hi i hi', rfl⟩
end
section
open PySem PySem.W PyProof.Rows
set_option Elab.async false
set_option linter.unusedVariables false
set_option maxRecDepth 100000
set_option maxHeartbeats 4000000

def clV (n : Nat) : List (Str × Addr) := [(Str.ofString "signs", n + 1), (Str.ofString "source", n)]
def ciV (s : Addr) (x : Str) : Option AV := if x = Str.ofString "source" then some (.ref s) else none
theorem body_law_value {F : FC} {c : Cx} {X : XP} {m : Loc} {H : AHeap} {s : Addr} {Q : AV → AHeap → Prop} (ok : FOk F 4)
    (h : ∀ (c' : Cx) (n : Nat) (H' : AHeap), c'.w = c.w → c'.env.cells = clV n → H.Sub H' → (∀ x b, (clV n).lookup x = some b → H' b = some (.cell (ciV s x)) ∧ H b = none) → WSs (FG (scopeAt 41) 4) c' (bodyAt 41) (retQ Q) noX [(Str.ofString "way", none), (Str.ofString "beyond", none)] H') : WCall F c (.ref 253) [.ref s] Q X m H := by
  refine WCall_defC (cl := clV) (ci := ciV s) (p := Str.ofString "source") (ls := [Str.ofString "way", Str.ofString "beyond"]) (m0 := [(Str.ofString "way", none), (Str.ofString "beyond", none)]) (fn_law_value _) ok.K.symm ok.prog.symm ok.ht (fun n => by kernel_rfl) (fun n => by show ([Str.ofString "signs", Str.ofString "source"] : List Str).Nodup; decide +kernel) (by decide +kernel) (.inr ⟨by decide +kernel, fun n => by kernel_rfl⟩) (by decide +kernel) (by decide +kernel) ?_ ?_ ?_ (fun c' n H' h1 _ _ h2 h3 h4 _ => h c' n H' h1 h2 h3 h4)
  · intro z w hz
    rcases List.mem_cons.mp hz with q | q
    · cases q
    · rcases List.mem_cons.mp q with q | q
      · cases q
      · cases q
  · intro z w hz
    unfold ciV at hz
    split at hz
    · rename_i q; cases hz; exact ⟨q, rfl, by decide +kernel⟩
    · cases hz
  · intro n x b _ hx q
    unfold ciV at hx
    rw [if_pos q] at hx; cases hx

theorem Frame.trans' {s : Addr} {H G K : AHeap} (h : H.Sub G) (k : Frame s G K) : Frame s H K := fun x p hx e => k x p hx (h x p e)
def goodK (k : Nat) : Prop := k < 55296 ∨ (57344 ≤ k ∧ k < 1114112)
theorem comp_free {c : Cx} {n : Nat} {sc : Scope} (h : c.env.cells = clV n) (k : sc.names.all (fun x => x.2 != .free || (List.lookup x.1 (clV n)).isSome) = true) : ∀ x ∈ sc.names, x.2 = .free → (c.env.cells.lookup x.1).isSome = true := by
  intro x hx hf
  have := List.all_eq_true.mp k x hx
  rw [h]
  rw [hf] at this
  simpa using this
def ifBody : Stmt → List Stmt
  | .If _ b _ _ => b
  | _ => []
theorem ofs1 : Str.ofString "a" = one 97 := by decide +kernel
theorem ofs2 : Str.ofString "Z" = one 90 := by decide +kernel
theorem ofs3 : Str.ofString " " = one 32 := by decide +kernel
theorem ofs4 : Str.ofString "'" = one 39 := by decide +kernel
theorem ofs5 : Str.ofString "0" = one 48 := by decide +kernel
def signsL : List AV := [.str (Str.ofString "a"), .str (Str.ofString "Z"), .str (Str.ofString " "), .str (Str.ofString "'"), .str (Str.ofString "0")] ++ [.str ⟨#[233]⟩, .str ⟨#[28450]⟩, .str ⟨#[128512]⟩]
theorem signsL_good {v : AV} (h : v ∈ signsL) : ∃ k, goodK k ∧ v = .str (one k) := by
  unfold signsL at h
  simp only [List.cons_append, List.nil_append, List.mem_cons, List.not_mem_nil, or_false] at h
  rcases h with rfl | rfl | rfl | rfl | rfl | rfl | rfl | rfl
  · exact ⟨97, .inl (by decide), by rw [ofs1]⟩
  · exact ⟨90, .inl (by decide), by rw [ofs2]⟩
  · exact ⟨32, .inl (by decide), by rw [ofs3]⟩
  · exact ⟨39, .inl (by decide), by rw [ofs4]⟩
  · exact ⟨48, .inl (by decide), by rw [ofs5]⟩
  · exact ⟨233, .inl (by decide), rfl⟩
  · exact ⟨28450, .inl (by decide), rfl⟩
  · exact ⟨128512, .inr (by decide), rfl⟩
theorem Frame.trans {s : Addr} {H G K : AHeap} (h : Frame s H G) (k : Frame s G K) : Frame s H K := fun x p hx e => k x p hx (h x p hx e)
theorem law_value_join {c' : Cx} {H K : AHeap} {n : Nat} {s l6 : Addr} {B Y : Nat} {m : Loc} {Q : AV → AHeap → Prop} {Q' : AFlow → Loc → AHeap → Prop} (hcells : c'.env.cells = clV n) (hns : n ≠ s) (hns2 : n + 1 ≠ s)
    (fr : Frame s H K) (es : K s = some (src B Y)) (hY : Y < 2147483647) (l1 : K n = some (.cell (some (.ref s)))) (l2 : K (n + 1) = some (.cell (some (.ref l6)))) (lg : K l6 = some (.list signsL))
    (hQ : ∀ v m H, retQ Q (.ret v) m H → Q' (.ret v) m H) (fin : ∀ (G : AHeap) v (B Y : Nat), Frame s H G → G s = some (src B Y) → VOk v → Y < 2147483647 → ∃ H', H'.Sub G ∧ Q v H') :
    WSs (FG (scopeAt 41) 4) c' ((ifBody (stmtOf (bodyAt 41) 3)).drop 2) Q' noX m K := by
  have hc1 : c'.env.cells.lookup (Str.ofString "source") = some n := by rw [hcells]; rfl
  have hls : l6 ≠ s := fun q => by rw [q, es] at lg; cases lg
  conv => arg 3; whnf
  specialize "w"
  refine WE_ListComp ?ok ?_
  case ok => exact ⟨rfl, by decide +kernel, by decide +kernel, by decide +kernel, by decide +kernel, comp_free hcells (by kernel_rfl)⟩
  specialize "w"
  refine WE_cell (a := n) (by decide +kernel) hc1 l1 ?_
  specialize "w"
  intro l7 hl7
  specialize "w"
  refine c_law_one (xs := nints [0, 1, 2, 3, 5, 11]) ⟨rfl, rfl, by decide⟩ ⟨B, Y, look_new hl7 es, hY⟩ (AHeap.set_same _ _ _) (fun q => by rw [q, es] at hl7; cases hl7) (by decide) (by decide) fun v B Y hv hY => ?_
  obtain ⟨k, hk, rfl⟩ := List.mem_map.mp hv
  have hk11 : k ≤ 11 := by
    have : ∀ x ∈ [0, 1, 2, 3, 5, 11], x ≤ 11 := by decide
    exact this k hk
  specialize "w"
  refine range1 fun d hd => ?_
  refine rng_c (asg := asgN (Str.ofString "turn")) 0 k hd ?_ rfl (by rw [Nat.zero_add]) (by lia)
  intro c2 D hw2 hce2 hD
  have frb := (fr.new (o := .list (nints [0, 1, 2, 3, 5, 11])) hl7).src (src B Y)
  have esb := AHeap.set_same (K.set l7 (.list (nints [0, 1, 2, 3, 5, 11]))) s (src B Y)
  have l1b := (AHeap.set_ne (K.set l7 (.list (nints [0, 1, 2, 3, 5, 11]))) (src B Y) hns).trans (look_new hl7 l1)
  have l2b := (AHeap.set_ne (K.set l7 (.list (nints [0, 1, 2, 3, 5, 11]))) (src B Y) hns2).trans (look_new hl7 l2)
  have lgb := (AHeap.set_ne (K.set l7 (.list (nints [0, 1, 2, 3, 5, 11]))) (src B Y) hls).trans (look_new hl7 lg)
  have hd1 : c2.env.cells.lookup (Str.ofString "source") = some n := by rw [hce2, hcells]; kernel_rfl
  have hd2 : c2.env.cells.lookup (Str.ofString "signs") = some (n + 1) := by rw [hce2, hcells]; kernel_rfl
  unfold inF
  have hDs : D ≠ s := fun q => by
    have h1 := hD; rw [q] at h1; exact absurd (esb.symm.trans h1) (by simp)
  refine WComp_ind asgN_mono (fun r m G => ∃ (i j : Nat) (tv : Option AV) (cs : List Nat), r = rg j i ∧ j + i = k ∧ cs.length = j ∧ (∀ x ∈ cs, goodK x) ∧ m = [(Str.ofString "turn", tv)] ∧ Frame s (K.set l7 (.list (nints [0, 1, 2, 3, 5, 11])) |>.set s (src B Y)) G ∧ SrcAt G s ∧ G D = some (.list (cs.map fun x => AV.str (one x)))) (fun _ _ _ _ => trivial) ?_ ?_
    ⟨k, 0, none, [], rfl, by lia, rfl, by simp, rfl, (Frame.refl _ _).new hD, ⟨B, Y, look_new hD esb, hY⟩, AHeap.set_same _ _ _⟩
  · rintro v r m G ⟨i, j, tv, cs, e, hij, hcl, hgood, rfl, frG, hsrc, hGD⟩
    obtain ⟨i, rfl, rfl, rfl⟩ := rg_cons e
    specialize "S"
    specialize "w"
    refine WE_cell (a := n) (by decide +kernel) hd1 (frG _ _ hns l1b) ?_
    specialize "w"
    refine WE_cell (a := n + 1) (by decide +kernel) hd2 (frG _ _ hns2 l2b) ?_
    specialize "w"
    refine c_law_one ⟨rfl, rfl, by show 2 < 4; decide⟩ hsrc (frG _ _ hls lgb) hls (by decide) (by decide) fun v B2 Y2 hv hY2 => ?_
    obtain ⟨x, hx, rfl⟩ := signsL_good hv
    refine ⟨_, (AHeap.set_ne _ _ hDs).trans hGD, by rw [List.length_map]; show _ ≤ 16777216; lia, i, j + 1, _, cs ++ [x], rfl, by lia, by simp; lia, ?_, rfl, (frG.src _).own _ hD, ⟨B2, Y2, (AHeap.set_ne _ _ (Ne.symm hDs)).trans (AHeap.set_same _ _ _), hY2⟩, ?_⟩
    · intro y hy
      rcases List.mem_append.mp hy with q | q
      · exact hgood y q
      · rw [List.mem_singleton.mp q]; exact hx
    · rw [AHeap.set_same, List.map_append]; rfl
  · rintro m G ⟨i, j, tv, cs, e, hij, hcl, hgood, rfl, frG, ⟨B2, Y2, esG, hY2⟩, hGD⟩
    obtain rfl := rg_nil e
    specialize "w"
    refine call_joinN hGD (by lia) ?_
    specialize "S"
    refine hQ _ _ _ ?_
    specialize "S"
    refine fin G _ B2 Y2 (frb.trans frG) esG ⟨?_, ?_⟩ hY2
    · show cs.toArray.size ≤ 11; rw [List.size_toArray]; lia
    · intro x hx; exact hgood x (by simpa using hx)
theorem law_value_text {c' : Cx} {H G : AHeap} {n : Nat} {s b4 : Addr} {B Y : Nat} {wv : Option AV} {Q : AV → AHeap → Prop} {Q' : AFlow → Loc → AHeap → Prop} (hcells : c'.env.cells = clV n) (hns : n ≠ s) (hns2 : n + 1 ≠ s) (n1 : H n = none) (n2 : H (n + 1) = none)
    (fr : Frame s H G) (es : G s = some (src B Y)) (hY : Y < 2147483647) (l1 : G n = some (.cell (some (.ref s)))) (l2 : G (n + 1) = some (.cell none)) (lb : G b4 = some (.list [.bytes [195, 169], .bytes [230, 188, 162], .bytes [240, 159, 152, 128]]))
    (hQ : ∀ v m H, retQ Q (.ret v) m H → Q' (.ret v) m H) (fin : ∀ (G : AHeap) v (B Y : Nat), Frame s H G → G s = some (src B Y) → VOk v → Y < 2147483647 → ∃ H', H'.Sub G ∧ Q v H') :
    WSs (FG (scopeAt 41) 4) c' ((ifBody (stmtOf (bodyAt 41) 3)).drop 1) Q' noX [(Str.ofString "way", wv), (Str.ofString "beyond", some (.ref b4))] G := by
  have hc1 : c'.env.cells.lookup (Str.ofString "source") = some n := by rw [hcells]; rfl
  have hc2 : c'.env.cells.lookup (Str.ofString "signs") = some (n + 1) := by rw [hcells]; rfl
  conv => arg 3; whnf
  specialize "S"
  refine WS_AssignCell (a := n + 1) (o := none) (by decide +kernel) hc2 ?_
  specialize "w"
  intro l5 hl5
  refine WE_ListComp ?ok ?_
  case ok => exact ⟨rfl, by decide +kernel, by decide +kernel, by decide +kernel, by decide +kernel, comp_free hcells (by kernel_rfl)⟩
  specialize "w"
  refine ⟨_, _, _, .list (look_new hl5 lb), ⟨_, rfl⟩, .refl _, fun c2 D hw2 hce2 hD => ?_⟩
  unfold inF
  have lbD := look_new (o := .list []) hD (look_new hl5 lb)
  refine ⟨lbD, ?_⟩
  specialize "S"
  specialize "w"
  refine ⟨_, meth_decode, ?_⟩
  specialize "w"
  refine bytes_decode dec1 ?_
  refine ⟨_, AHeap.set_same _ _ _, Nat.le_of_ble_eq_true rfl, ?_⟩
  rw [AHeap.set_set]
  refine ⟨look_new hD (look_new hl5 lb), ?_⟩
  specialize "S"
  specialize "w"
  refine ⟨_, meth_decode, ?_⟩
  specialize "w"
  refine bytes_decode dec2 ?_
  refine ⟨_, AHeap.set_same _ _ _, Nat.le_of_ble_eq_true rfl, ?_⟩
  rw [AHeap.set_set]
  refine ⟨look_new hD (look_new hl5 lb), ?_⟩
  specialize "S"
  specialize "w"
  refine ⟨_, meth_decode, ?_⟩
  specialize "w"
  refine bytes_decode dec3 ?_
  refine ⟨_, AHeap.set_same _ _ _, Nat.le_of_ble_eq_true rfl, ?_⟩
  rw [AHeap.set_set]
  refine ⟨look_new hD (look_new hl5 lb), ?_⟩
  refine add_list (look_new hD (AHeap.set_same _ _ _)) (AHeap.set_same _ _ _) (Nat.le_of_ble_eq_true rfl) fun l6 hl6 => ?_
  refine ⟨none, look_new hl6 (look_new hD (look_new hl5 l2)), ?_⟩
  have n6 : l6 ≠ n + 1 := Ne.symm (AHeap.ne_of hl6 (look_new hD (look_new hl5 l2)))
  specialize "S"
  exact law_value_join hcells hns hns2 ((((fr.new hl5).new hD).new hl6).own _ n2) ((AHeap.set_ne _ _ (Ne.symm hns2)).trans (look_new hl6 (look_new hD (look_new hl5 es)))) hY
    ((AHeap.set_ne _ _ (Nat.ne_of_lt (Nat.lt_succ_self n))).trans (look_new hl6 (look_new hD (look_new hl5 l1)))) (AHeap.set_same _ _ _) ((AHeap.set_ne _ _ n6).trans (AHeap.set_same _ _ _)) hQ fin
theorem c_law_value {F : FC} {c : Cx} {X : XP} {m : Loc} {H : AHeap} {s : Addr} {Q : AV → AHeap → Prop} (ok : FOk F 4) (e : SrcAt H s)
    (h : ∀ v (B Y : Nat), VOk v → Y < 2147483647 → Q v (H.set s (src B Y))) : WCall F c (.ref 253) [.ref s] Q X m H := by
  refine body_law_value ok fun c' n H1 hw hcells sub hcell => ?_
  have hc1 : c'.env.cells.lookup (Str.ofString "source") = some n := by rw [hcells]; rfl
  have hc2 : c'.env.cells.lookup (Str.ofString "signs") = some (n + 1) := by rw [hcells]; rfl
  obtain ⟨l1, n1⟩ := hcell (Str.ofString "source") n rfl
  obtain ⟨l2, n2⟩ := hcell (Str.ofString "signs") (n + 1) rfl
  rw [show ciV s (Str.ofString "source") = some (.ref s) from if_pos rfl] at l1
  rw [show ciV s (Str.ofString "signs") = none from if_neg (by decide +kernel)] at l2
  have e0 : SrcAt H1 s := let ⟨B, Y, a, b⟩ := e; ⟨B, Y, sub.at a, b⟩
  have hns : n ≠ s := fun q => by obtain ⟨B, Y, a, _⟩ := e; rw [q, a] at n1; cases n1
  have hns2 : n + 1 ≠ s := fun q => by obtain ⟨B, Y, a, _⟩ := e; rw [q, a] at n2; cases n2
  have fin : ∀ (G : AHeap) v (B Y : Nat), Frame s H G → G s = some (src B Y) → VOk v → Y < 2147483647 → ∃ H', H'.Sub G ∧ Q v H' := fun G v B Y fr es hv hY => ⟨_, fr.sub es, h v B Y hv hY⟩
  conv => arg 3; whnf
  specialize "w"
  refine WE_cell (a := n) (by decide +kernel) hc1 l1 ?_
  specialize "w"
  refine c_law_take (top := 6) ⟨rfl, rfl, by decide⟩ e0 (by decide) (by decide) fun way B Y hway hY => ?_
  have fr : Frame s H1 (H1.set s (src B Y)) := (Frame.refl s H1).src _
  have es : (H1.set s (src B Y)) s = some (src B Y) := AHeap.set_same _ _ _
  generalize H1.set s (src B Y) = G at fr es
  specialize "w"
  refine breq (fun q => ?_) fun q => ?_
  · specialize "w"
    exact fin G _ B Y (Frame.trans' sub fr) es trivial hY
  specialize "w"
  refine br (fun q => ?_) fun q => ?_
  · specialize "w"
    refine WE_cell (a := n) (by decide +kernel) hc1 (fr _ _ hns l1) ?_
    specialize "w"
    refine c_law_number ⟨rfl, rfl, by decide⟩ ⟨B, Y, es, hY⟩ fun i B Y h1 h2 hY => ?_
    specialize "w"
    exact fin _ _ B Y ((Frame.trans' sub fr).src _) (AHeap.set_same _ _ _) (numType_ok h1 h2) hY
  specialize "w"
  refine br (fun q => ?_) fun q => ?_
  · specialize "w"
    intro b1 hb1
    specialize "w"
    refine bytes_list (ns := [195, 169]) (AHeap.set_same _ _ _) (by decide) (Nat.le_of_ble_eq_true rfl) ?_
    specialize "w"
    intro b2 hb2
    specialize "w"
    refine bytes_list (ns := [230, 188, 162]) (AHeap.set_same _ _ _) (by decide) (Nat.le_of_ble_eq_true rfl) ?_
    specialize "w"
    intro b3 hb3
    specialize "w"
    refine bytes_list (ns := [240, 159, 152, 128]) (AHeap.set_same _ _ _) (by decide) (Nat.le_of_ble_eq_true rfl) ?_
    specialize "w"
    intro b4 hb4
    have fr2 := (((fr.new (o := .list (nints [195, 169])) hb1).new (o := .list (nints [230, 188, 162])) hb2).new (o := .list (nints [240, 159, 152, 128])) hb3).new (o := .list [.bytes [195, 169], .bytes [230, 188, 162], .bytes [240, 159, 152, 128]]) hb4
    have es2 := look_new (o := .list [.bytes [195, 169], .bytes [230, 188, 162], .bytes [240, 159, 152, 128]]) hb4 (look_new (o := .list (nints [240, 159, 152, 128])) hb3 (look_new (o := .list (nints [230, 188, 162])) hb2 (look_new (o := .list (nints [195, 169])) hb1 es)))
    have lb := AHeap.set_same (((G.set b1 (.list (nints [195, 169]))).set b2 (.list (nints [230, 188, 162]))).set b3 (.list (nints [240, 159, 152, 128]))) b4 (.list [.bytes [195, 169], .bytes [230, 188, 162], .bytes [240, 159, 152, 128]])
    have frH := Frame.trans' sub fr2
    have l1' := fr2 _ _ hns l1
    have l2' := fr2 _ _ hns2 l2
    specialize "S"
    specialize "S"
    exact law_value_text hcells hns hns2 n1 n2 frH es2 hY l1' l2' lb (fun _ _ _ h => h) fin
  · specialize "w"
    refine WE_ListComp ?ok ?_
    case ok => exact ⟨rfl, by decide +kernel, by decide +kernel, by decide +kernel, by decide +kernel, comp_free hcells (by kernel_rfl)⟩
    specialize "w"
    refine WE_cell (a := n) (by decide +kernel) hc1 (fr _ _ hns l1) ?_
    specialize "w"
    intro l7 hl7
    specialize "w"
    refine c_law_one (xs := nints [0, 1, 2, 7, 58, 70]) ⟨rfl, rfl, by decide⟩ ⟨B, Y, look_new hl7 es, hY⟩ (AHeap.set_same _ _ _) (fun q => by rw [q, es] at hl7; cases hl7) (by decide) (by decide) fun v B Y hv hY => ?_
    obtain ⟨k, hk, rfl⟩ := List.mem_map.mp hv
    have hk70 : k ≤ 70 := by
      have : ∀ x ∈ [0, 1, 2, 7, 58, 70], x ≤ 70 := by decide
      exact this k hk
    specialize "w"
    refine range1 fun d hd => ?_
    refine rng_c (asg := asgN (Str.ofString "turn")) 0 k hd ?_ rfl (by rw [Nat.zero_add]) (by lia)
    intro c2 D hw2 hce2 hD
    have frb := (fr.new (o := .list (nints [0, 1, 2, 7, 58, 70])) hl7).src (src B Y)
    have esb := AHeap.set_same (G.set l7 (.list (nints [0, 1, 2, 7, 58, 70]))) s (src B Y)
    have l1b := (AHeap.set_ne (G.set l7 (.list (nints [0, 1, 2, 7, 58, 70]))) (src B Y) hns).trans (look_new hl7 (fr _ _ hns l1))
    have hd1 : c2.env.cells.lookup (Str.ofString "source") = some n := by rw [hce2, hcells]; kernel_rfl
    unfold inF
    have hDs : D ≠ s := fun q => by
      have h1 := hD; rw [q] at h1; exact absurd (esb.symm.trans h1) (by simp)
    refine WComp_ind asgN_mono (fun r m K => ∃ (i j : Nat) (tv : Option AV) (cs : List Nat), r = rg j i ∧ j + i = k ∧ cs.length = j ∧ (∀ x ∈ cs, x < 256) ∧ m = [(Str.ofString "turn", tv)] ∧ Frame s (G.set l7 (.list (nints [0, 1, 2, 7, 58, 70])) |>.set s (src B Y)) K ∧ SrcAt K s ∧ K D = some (.list (nints cs))) (fun _ _ _ _ => trivial) ?_ ?_
      ⟨k, 0, none, [], rfl, by lia, rfl, by simp, rfl, (Frame.refl _ _).new hD, ⟨B, Y, look_new hD esb, hY⟩, AHeap.set_same _ _ _⟩
    · rintro v r m K ⟨i, j, tv, cs, e, hij, hcl, hgood, rfl, frG, hsrc, hGD⟩
      obtain ⟨i, rfl, rfl, rfl⟩ := rg_cons e
      specialize "S"
      specialize "w"
      refine WE_cell (a := n) (by decide +kernel) hd1 (frG _ _ hns l1b) ?_
      specialize "w"
      intro l8 hl8
      specialize "w"
      have hl8s : l8 ≠ s := fun q => by obtain ⟨B, Y, e, _⟩ := hsrc; rw [q, e] at hl8; cases hl8
      refine c_law_one (xs := nints [0, 1, 127, 128, 255]) ⟨rfl, rfl, by show 2 < 4; decide⟩ (let ⟨B, Y, e, y⟩ := hsrc; ⟨B, Y, look_new hl8 e, y⟩) (AHeap.set_same _ _ _) hl8s (by decide) (by decide) fun v B2 Y2 hv hY2 => ?_
      obtain ⟨x, hx, rfl⟩ := List.mem_map.mp hv
      have hx256 : x < 256 := by
        have : ∀ x ∈ [0, 1, 127, 128, 255], x < 256 := by decide
        exact this x hx
      refine ⟨_, (AHeap.set_ne _ _ hDs).trans (look_new hl8 hGD), by rw [nints_length]; show _ ≤ 16777216; lia, i, j + 1, _, cs ++ [x], rfl, by lia, by simp; lia, ?_, rfl, ((frG.new hl8).src _).own _ hD, ⟨B2, Y2, (AHeap.set_ne _ _ (Ne.symm hDs)).trans (AHeap.set_same _ _ _), hY2⟩, ?_⟩
      · intro y hy
        rcases List.mem_append.mp hy with q | q
        · exact hgood y q
        · rw [List.mem_singleton.mp q]; exact hx256
      · rw [AHeap.set_same, nints_append]; rfl
    · rintro m K ⟨i, j, tv, cs, e, hij, hcl, hgood, rfl, frG, ⟨B2, Y2, esG, hY2⟩, hGD⟩
      obtain rfl := rg_nil e
      specialize "w"
      refine bytes_list hGD hgood (by show _ ≤ 16777216; lia) ?_
      specialize "w"
      exact fin K _ B2 Y2 ((Frame.trans' sub frb).trans frG) esG ⟨by lia, hgood⟩ hY2
end
section
open PySem PySem.W PyProof.Rows
set_option Elab.async false
set_option linter.unusedVariables false
set_option maxRecDepth 100000
set_option maxHeartbeats 4000000

def clL (n : Nat) : List (Str × Addr) := [(Str.ofString "source", n)]
theorem comp_freeL {c : Cx} {n : Nat} {sc : Scope} (h : c.env.cells = clL n) (k : sc.names.all (fun x => x.2 != .free || (List.lookup x.1 (clL n)).isSome) = true) : ∀ x ∈ sc.names, x.2 = .free → (c.env.cells.lookup x.1).isSome = true := by
  intro x hx hf
  have := List.all_eq_true.mp k x hx
  rw [h]
  rw [hf] at this
  simpa using this
/-- what the try of _law_refused tells, in the context of law itself -/
def Refuses (c' : Cx) : Prop := ∀ (m : Loc) (H : AHeap) (k : Nat) (Q : AV → AHeap → Prop), (k = 7 ∨ k = 10 ∨ k = 11) → Q (.bool true) H → WCall (FG (scopeAt 47) 6) c' (.ref 288) [.bytes [3, 0, k, 0, 0, 0, 0, 0, 0, 0, 0]] Q noX m H
theorem law_tail {c' : Cx} {G : AHeap} {n a s : Addr} {ob : Obj} {ns : List Int} {B Y : Nat} {tk tv tn : Option AV} {Q' : AFlow → Loc → AHeap → Prop} (hc1 : c'.env.cells.lookup (Str.ofString "source") = some n) (refused : Refuses c') (hns : n ≠ s) (has : a ≠ s)
    (eG : G a = some (.script ob ns)) (lG : G n = some (.cell (some (.ref s)))) (sG : G s = some (src B Y)) (hY : Y < 2147483647)
    (fin : ∀ tn K, K a = some (.script ob ns) → K n = some (.cell (some (.ref s))) → Q' .next [(Str.ofString "script", some (.ref a)), (Str.ofString "k", tk), (Str.ofString "values", tv), (Str.ofString "kind", tn)] K) :
    WSs (FG (scopeAt 47) 6) c' ((forBody (stmtOf (bodyAt 47) 0)).drop 5) Q' noX [(Str.ofString "script", some (.ref a)), (Str.ofString "k", tk), (Str.ofString "values", tv), (Str.ofString "kind", tn)] G := by
  conv => arg 3; whnf
  specialize "w"
  refine WE_cell (a := n) (by decide +kernel) hc1 lG ?_
  specialize "w"
  intro l hl
  specialize "w"
  refine c_law_one (xs := nints [7, 10, 11]) ⟨rfl, rfl, by decide⟩ ⟨B, Y, look_new hl sG, hY⟩ (AHeap.set_same _ _ _) (fun q => by rw [q, sG] at hl; cases hl) (by decide) (by decide) fun v B Y hv hY => ?_
  obtain ⟨k, hk, rfl⟩ := List.mem_map.mp hv
  have hk3 : k = 7 ∨ k = 10 ∨ k = 11 := by simpa using hk
  have hk256 : k < 256 := by lia
  have fr1 : Frame s G ((G.set l (.list [.int 7, .int 10, .int 11])).set s (src B Y)) := ((Frame.refl s G).new hl).src _
  have eG := fr1 _ _ has eG
  have lG := fr1 _ _ hns lG
  generalize ((G.set l (.list [.int 7, .int 10, .int 11])).set s (src B Y)) = G at fr1 eG lG
  clear fr1
  specialize "w"
  intro l2 hl2
  specialize "w"
  intro l3 hl3
  specialize "w"
  refine mul_list1 (n := 8) (v := .int 0) (AHeap.set_same _ _ _) (Nat.le_of_ble_eq_true rfl) fun l4 hl4 => ?_
  specialize "w"
  refine add_listN (xs := [3, 0, k]) (ys := List.replicate 8 0) (look_new hl4 (look_new hl3 (AHeap.set_same _ _ _))) (AHeap.set_same _ _ _) (Nat.le_of_ble_eq_true rfl) fun l5 hl5 => ?_
  specialize "w"
  refine bytes_list (ns := [3, 0, k, 0, 0, 0, 0, 0, 0, 0, 0]) (AHeap.set_same _ _ _) (by simp; lia) (Nat.le_of_ble_eq_true rfl) ?_
  specialize "w"
  refine refused _ _ k _ hk3 ?_
  specialize "w"
  refine iff' ?_
  specialize "w"
  exact fin _ _ (look_new hl5 (look_new hl4 (look_new hl3 (look_new hl2 eG)))) (look_new hl5 (look_new hl4 (look_new hl3 (look_new hl2 lG))))
theorem law_walk {c' : Cx} {H1 : AHeap} {n a : Addr} {ob : Obj} {ns : List Int} {Q : AV → AHeap → Prop} (e1 : H1 a = some (.script ob ns)) (hl : ns.length ≤ 1000) (refused : Refuses c') (hcells : c'.env.cells = clL n) (lc : H1 n = some (.cell none))
    (h : ∀ H', H' a = some (.script ob ns) → Q (.bool true) H') : WSs (FG (scopeAt 47) 6) c' (bodyAt 47) (retQ Q) noX [(Str.ofString "script", some (.ref a)), (Str.ofString "k", none), (Str.ofString "values", none), (Str.ofString "kind", none)] H1 := by
  have hc1 : c'.env.cells.lookup (Str.ofString "source") = some n := by rw [hcells]; rfl
  conv => arg 3; whnf
  specialize "S"
  refine WS_For ?_
  specialize "w"
  refine len_script e1 (by show _ ≤ 16777216; lia) ?_
  specialize "w"
  refine min_int ?_
  specialize "w"
  refine max_int ?_
  specialize "w"
  refine range1 fun d hd => ?_
  obtain ⟨N, hN, hN2⟩ : ∃ N : Nat, max 1 (min (ns.length : Int) 2) = (N : Int) ∧ N ≤ 2 := ⟨(max 1 (min (ns.length : Int) 2)).toNat, by lia, by lia⟩
  refine rng_k 0 N hd ?_ rfl (by rw [hN, Nat.zero_add]) (by lia)
  refine WLoop_ind asgN_mono (fun rs m K => ∃ (i j : Nat) (tk tv tn : Option AV), rs = rg j i ∧ j + i = N ∧ m = [(Str.ofString "script", some (.ref a)), (Str.ofString "k", tk), (Str.ofString "values", tv), (Str.ofString "kind", tn)] ∧ K a = some (.script ob ns) ∧ ∃ w, K n = some (.cell w)) (fun _ _ _ _ => trivial) ?_ ?_
    ⟨N, 0, none, none, none, rfl, by lia, rfl, e1, _, lc⟩
  · rintro v r m K ⟨i, j, tk, tv, tn, e, hij, rfl, eK, w, lK⟩
    obtain ⟨i, rfl, rfl, rfl⟩ := rg_cons e
    specialize "S"
    specialize "S"
    refine WS_AssignCell (a := n) (o := none) (by decide +kernel) hc1 ?_
    specialize "w"
    refine c_law_pool (ob := ob) (ns := ns) (k := j) ⟨rfl, rfl, by decide⟩ eK hl (by lia) fun B Y s hY hs => ?_
    have hns : n ≠ s := fun q => by rw [q, hs] at lK; cases lK
    have has : a ≠ s := fun q => by rw [q, hs] at eK; cases eK
    have han : a ≠ n := fun q => by rw [q, lK] at eK; cases eK
    refine ⟨_, (AHeap.set_ne _ _ hns).trans lK, ?_⟩
    have eG : ((K.set s (src B Y)).set n (.cell (some (.ref s)))) a = some (.script ob ns) := (AHeap.set_ne _ _ han).trans ((AHeap.set_ne _ _ has).trans eK)
    have lG : ((K.set s (src B Y)).set n (.cell (some (.ref s)))) n = some (.cell (some (.ref s))) := AHeap.set_same _ _ _
    have sG : ((K.set s (src B Y)).set n (.cell (some (.ref s)))) s = some (src B Y) := (AHeap.set_ne _ _ (Ne.symm hns)).trans (AHeap.set_same _ _ _)
    generalize ((K.set s (src B Y)).set n (.cell (some (.ref s)))) = G at eG lG sG
    specialize "w"
    refine WE_cell (a := n) (by decide +kernel) hc1 lG ?_
    specialize "w"
    refine c_law_varints_right ⟨rfl, rfl, by decide⟩ ⟨B, Y, sG, hY⟩ fun B Y hY => ?_
    have fr : Frame s G (G.set s (src B Y)) := (Frame.refl s G).src _
    have sG := AHeap.set_same G s (src B Y)
    have eG := fr _ _ has eG
    have lG := fr _ _ hns lG
    generalize G.set s (src B Y) = G at fr sG eG lG
    clear fr
    specialize "w"
    refine iff' ?_
    specialize "w"
    refine WS_AssignComp ?ok ?_ ?hsw
    case ok => exact ⟨rfl, by decide +kernel, by decide +kernel, by decide +kernel, by decide +kernel, comp_freeL hcells (by kernel_rfl)⟩
    case hsw => intro env he; obtain ⟨⟩ := env; cases he; kernel_rfl
    specialize "w"
    refine WE_cell (a := n) (by decide +kernel) hc1 lG ?_
    specialize "w"
    refine c_law_take (top := 7) ⟨rfl, rfl, by decide⟩ ⟨B, Y, sG, hY⟩ (by decide) (by decide) fun k7 B Y hk7 hY => ?_
    have fr : Frame s G (G.set s (src B Y)) := (Frame.refl s G).src _
    have sG := AHeap.set_same G s (src B Y)
    have eG := fr _ _ has eG
    have lG := fr _ _ hns lG
    generalize G.set s (src B Y) = G at fr sG eG lG
    clear fr
    specialize "w"
    refine range1 fun d hd => ?_
    refine rng_c (asg := asgN (Str.ofString "turn")) 0 k7 hd ?_ rfl (by rw [Nat.zero_add]) (by lia)
    intro c2 D hw2 hce2 hD
    have hd1 : c2.env.cells.lookup (Str.ofString "source") = some n := by rw [hce2, hcells]; kernel_rfl
    unfold inF
    have hDs : D ≠ s := fun q => by rw [q, sG] at hD; cases hD
    have frb := (Frame.refl s G).new (o := .list []) hD
    have sGD := look_new (o := .list []) hD sG
    have lD0 := AHeap.set_same G D (.list [])
    have eGD := frb _ _ has eG
    have lGD := frb _ _ hns lG
    refine WComp_ind asgN_mono (fun r m K => ∃ (i j : Nat) (tv : Option AV) (vs : List AV), r = rg j i ∧ j + i = k7 ∧ vs.length = j ∧ (∀ x ∈ vs, VOk x) ∧ m = [(Str.ofString "turn", tv)] ∧ Frame s G K ∧ SrcAt K s ∧ K D = some (.list vs)) (fun _ _ _ _ => trivial) ?_ ?_
      ⟨k7, 0, none, [], rfl, by lia, rfl, by simp, rfl, frb, ⟨B, Y, sGD, hY⟩, lD0⟩
    · rintro v r m K ⟨i, j, tv, vs, e, hij2, hcl, hgood, rfl, frG, hsrc, hGD⟩
      obtain ⟨i, rfl, rfl, rfl⟩ := rg_cons e
      specialize "S"
      specialize "w"
      refine WE_cell (a := n) (by decide +kernel) hd1 (frG _ _ hns lG) ?_
      specialize "w"
      refine c_law_value ⟨rfl, rfl, by show 4 < _; decide⟩ hsrc fun v B2 Y2 hv hY2 => ?_
      refine ⟨_, (AHeap.set_ne _ _ hDs).trans hGD, by show _ ≤ 16777216; lia, i, j + 1, _, vs ++ [v], rfl, by lia, by simp; lia, ?_, rfl, ((frG).src _).own _ hD, ⟨B2, Y2, (AHeap.set_ne _ _ (Ne.symm hDs)).trans (AHeap.set_same _ _ _), hY2⟩, AHeap.set_same _ _ _⟩
      intro y hy
      rcases List.mem_append.mp hy with q | q
      · exact hgood y q
      · rw [List.mem_singleton.mp q]; exact hv
    · rintro m K ⟨i, j, tv, vs, e, hij2, hcl, hgood, rfl, frG, ⟨B, Y, sG, hY⟩, hGD⟩
      obtain rfl := rg_nil e
      have row : Row vs := ⟨hgood, by lia⟩
      have eG := frG _ _ has eG
      have lG := frG _ _ hns lG
      clear frG sGD lD0 eGD lGD frb
      specialize "w"
      refine len_list hGD (by show _ ≤ 16777216; lia) ?_
      specialize "w"
      refine range1 fun d2 hd2 => ?_
      specialize "w"
      refine c_law_record_right ⟨rfl, rfl, by decide⟩ (look_new hd2 hGD) row (.range (AHeap.set_same _ _ _)) ?_
      specialize "w"
      refine iff' ?_
      specialize "w"
      refine c_law_types_right ⟨rfl, rfl, by decide⟩ (look_new hd2 hGD) row ?_
      specialize "w"
      refine iff' ?_
      specialize "w"
      have frc := (Frame.refl s K).new (o := .range 0 (vs.length : Nat)) hd2
      have sG := look_new (o := .range 0 (vs.length : Nat)) hd2 sG
      have eG := frc _ _ has eG
      have lG := frc _ _ hns lG
      generalize K.set d2 (.range 0 (vs.length : Nat)) = G2 at frc sG eG lG
      clear frc
      refine WE_cell (a := n) (by decide +kernel) hc1 lG ?_
      specialize "w"
      refine c_law_take (top := 3) ⟨rfl, rfl, by decide⟩ ⟨B, Y, sG, hY⟩ (by decide) (by decide) fun k3 B Y hk3 hY => ?_
      have fr : Frame s G2 (G2.set s (src B Y)) := (Frame.refl s G2).src _
      have sG := AHeap.set_same G2 s (src B Y)
      have eG := fr _ _ has eG
      have lG := fr _ _ hns lG
      generalize G2.set s (src B Y) = G3 at fr sG eG lG
      clear fr
      specialize "w"
      refine breq (fun q => ?_) fun q => ?_
      · specialize "w"
        intro d3 hd3
        specialize "w"
        refine WE_cell (a := n) (by decide +kernel) hc1 (look_new hd3 lG) ?_
        specialize "w"
        refine c_law_take (top := 4) ⟨rfl, rfl, by decide⟩ ⟨B, Y, look_new hd3 sG, hY⟩ (by decide) (by decide) fun k4 B Y hk4 hY => ?_
        have h3s : d3 ≠ s := fun q => by rw [q, sG] at hd3; cases hd3
        have fr2 : Frame s G3 ((G3.set d3 (.list [.none])).set s (src B Y)) := ((Frame.refl s G3).new hd3).src _
        have sG := AHeap.set_same (G3.set d3 (.list [.none])) s (src B Y)
        have eG := fr2 _ _ has eG
        have lG := fr2 _ _ hns lG
        have dG := (AHeap.set_ne (G3.set d3 (.list [.none])) (src B Y) h3s).trans (AHeap.set_same G3 d3 (.list [.none]))
        generalize ((G3.set d3 (.list [.none])).set s (src B Y)) = G4 at fr2 sG eG lG dG
        clear fr2
        specialize "w"
        refine op_add ?_
        rw [show (126 : Int) + (k4 : Nat) = ((126 + k4 : Nat) : Int) by lia]
        refine mul_list1 (n := 126 + k4) dG (by show _ ≤ 16777216; lia) fun d4 hd4 => ?_
        specialize "w"
        intro d5 hd5
        specialize "w"
        refine c_law_record_right (vs := List.replicate (126 + k4) .none) ⟨rfl, rfl, by decide⟩ (look_new hd5 (AHeap.set_same _ _ _)) ⟨fun v hv => by rw [List.eq_of_mem_replicate hv]; trivial, by rw [List.length_replicate]; lia⟩ (.list (is := [125]) (AHeap.set_same _ _ _) (fun i hi => by rw [List.mem_singleton.mp hi, List.length_replicate]; lia)) ?_
        have fr3 : Frame s G4 ((G4.set d4 (.list (List.replicate (126 + k4) .none))).set d5 (.list [.int 125])) := ((Frame.refl s G4).new hd4).new hd5
        have sG := look_new (o := .list [.int 125]) hd5 (look_new (o := .list (List.replicate (126 + k4) .none)) hd4 sG)
        have eG := fr3 _ _ has eG
        have lG := fr3 _ _ hns lG
        specialize "S"
        refine iff' ?_
        refine iff' ?_
        specialize "S"
        specialize "S"
        exact law_tail hc1 refused hns has eG lG sG hY fun tn K e1 e2 => ⟨_, _, _, _, _, rfl, by lia, rfl, e1, _, e2⟩
      · specialize "S"
        specialize "S"
        specialize "S"
        exact law_tail hc1 refused hns has eG lG sG hY fun tn K e1 e2 => ⟨_, _, _, _, _, rfl, by lia, rfl, e1, _, e2⟩
  · rintro m K ⟨i, j, tk, tv, tn, e, hij, rfl, eK, w, lK⟩
    specialize "w"
    exact ⟨K, .refl _, h _ eK⟩
end
section
open PySem PySem.W PyProof.Rows
set_option Elab.async false
set_option linter.unusedVariables false
set_option maxRecDepth 100000
set_option maxHeartbeats 4000000
theorem bodyx_serial_size {F : FC} {c : Cx} {X : XP} {m : Loc} {H : AHeap} {v0 : AV} {Q : AV → AHeap → Prop} {G B : Heap} {outer : List Env} (ok : FOk F 1) (hc : Here G B c outer) (hX : ∀ h₀ v s', FlyX G B c outer h₀ v s' → X h₀ v s')
    (h : ∀ c' : Cx, c'.w = c.w → Here G B c' (c.env :: outer) → WSs (FG (scopeAt 25) 1) c' (bodyAt 25) (fun _ _ _ => False) (LeaveX (FG (scopeAt 25) 1) G B c' (c.env :: outer)) [(Str.ofString "t", some v0)] H) : WCall F c (.ref 150) [v0] Q X m H :=
  WCall_defX (ls := []) (fn_serial_size _) ok.K.symm ok.prog.symm ok.ht rfl (by decide +kernel) (by decide +kernel) (by decide +kernel) hc hX h
theorem bodyx_value_of {F : FC} {c : Cx} {X : XP} {m : Loc} {H : AHeap} {v0 v1 v2 : AV} {Q : AV → AHeap → Prop} {G B : Heap} {outer : List Env} (ok : FOk F 3) (hc : Here G B c outer) (hX : ∀ h₀ v s', FlyX G B c outer h₀ v s' → X h₀ v s')
    (h : ∀ c' : Cx, c'.w = c.w → Here G B c' (c.env :: outer) → WSs (FG (scopeAt 27) 3) c' (bodyAt 27) (fun _ _ _ => False) (LeaveX (FG (scopeAt 27) 3) G B c' (c.env :: outer)) [(Str.ofString "octets", some v0), (Str.ofString "at", some v1), (Str.ofString "kind", some v2), (Str.ofString "size", none), (Str.ofString "body", none)] H) : WCall F c (.ref 164) [v0, v1, v2] Q X m H :=
  WCall_defX (ls := [Str.ofString "size", Str.ofString "body"]) (fn_value_of _) ok.K.symm ok.prog.symm ok.ht rfl (by decide +kernel) (by decide +kernel) (by decide +kernel) hc hX h
theorem bodyx_decode_record {F : FC} {c : Cx} {X : XP} {m : Loc} {H : AHeap} {v0 : AV} {Q : AV → AHeap → Prop} {G B : Heap} {outer : List Env} (ok : FOk F 4) (hc : Here G B c outer) (hX : ∀ h₀ v s', FlyX G B c outer h₀ v s' → X h₀ v s')
    (h : ∀ c' : Cx, c'.w = c.w → Here G B c' (c.env :: outer) → WSs (FG (scopeAt 31) 4) c' (bodyAt 31) (fun _ _ _ => False) (LeaveX (FG (scopeAt 31) 4) G B c' (c.env :: outer)) [(Str.ofString "octets", some v0), (Str.ofString "types", none), (Str.ofString "at", none), (Str.ofString "values", none), (Str.ofString "kind", none)] H) : WCall F c (.ref 192) [v0] Q X m H :=
  WCall_defX (ls := [Str.ofString "types", Str.ofString "at", Str.ofString "values", Str.ofString "kind"]) (fn_decode_record _) ok.K.symm ok.prog.symm ok.ht rfl (by decide +kernel) (by decide +kernel) (by decide +kernel) hc hX h

theorem ex_corrupt (P : Params) : OwnExc (KF P) 44 31 28 where
  obj := ⟨_, _, _, _, _, _, _, _, _, _, _, _, _, _, rfl⟩
  init := rfl
  set := rfl
  msg := rfl
  fn := ⟨_, _, rfl, rfl, rfl, rfl, rfl, rfl, rfl, rfl, by decide +kernel, by kernel_rfl, ⟨_, _, _, _, rfl⟩, fun u v => by kernel_rfl⟩
theorem g_CorruptError (P : Params) : nsIn (KF P) mainGlobals (Str.ofString "CorruptError") = some (some (.ref 44)) := rfl
theorem fstr_fits {t : Nat} (ht : t = 7 ∨ t = 10 ∨ t = 11) : (Str.empty ++ Str.ofString "no serial type " ++ (toString (t : Int) : Str)).length ≤ sizeLine := by
  rw [sizeLine_eq]
  rcases ht with rfl | rfl | rfl <;> exact Nat.le_of_ble_eq_true (by decide +kernel)
theorem x_serial_size {F : FC} {c : Cx} {X : XP} {m : Loc} {H : AHeap} {t : Nat} {Q : AV → AHeap → Prop} {G B : Heap} {outer : List Env} (ok : FOk F 1) (ht : t = 7 ∨ t = 10 ∨ t = 11) (hc : Here G B c outer)
    (hX : ∀ h₀ v s', FlyX G B c outer h₀ v s' → X h₀ v s') : WCall F c (.ref 150) [.int (t : Nat)] Q X m H := by
  refine bodyx_serial_size ok hc hX fun c' hw hc' => ?_
  conv => arg 3; whnf
  specialize "w"
  refine br (fun h0 => ?_) fun h0 => ?_
  · lia
  specialize "w"
  intro d hd
  specialize "w"
  refine cmp_in_tup (ns := [8, 9]) (AHeap.set_same _ _ _) ?_
  rw [show ([8, 9] : List Int).any (· == (t : Int)) = decide (t = 8 ∨ t = 9) by
    rw [Bool.eq_iff_iff]; simp; lia]
  refine br (fun h1 => ?_) fun h1 => ?_
  · lia
  specialize "w"
  refine len_sizes rfl ?_
  specialize "w"
  refine br (fun h2 => ?_) fun h2 => ?_
  · lia
  specialize "w"
  refine WS_Raise (ex_corrupt _) hc' ?_
  refine WE_CallCls (ex_corrupt _) ?_ rfl rfl
  refine WE_global (v := .ref 44) ?_ (g_CorruptError _) rfl ⟨rfl, ?_⟩
  · kernel_rfl
  specialize "w"
  refine WE_fstr (t := (t : Nat)) At.here ?_ ?_ (fstr_fits ht) fun y => ?_
  · rcases ht with rfl | rfl | rfl <;> decide
  · rw [sizeLine_eq]; exact Nat.le_of_ble_eq_true (by decide +kernel)
  specialize "w"
  exact WCall_exc (ex_corrupt _) (Nat.le_refl _) fun e t hn => ⟨e, t, rfl, AHeap.set_same _ _ _⟩
theorem x_value_of {F : FC} {c : Cx} {X : XP} {m : Loc} {H : AHeap} {ns : List Nat} {a t : Nat} {Q : AV → AHeap → Prop} {G B : Heap} {outer : List Env} (ok : FOk F 3) (ht : t = 7 ∨ t = 10 ∨ t = 11) (hc : Here G B c outer)
    (hX : ∀ h₀ v s', FlyX G B c outer h₀ v s' → X h₀ v s') : WCall F c (.ref 164) [.bytes ns, .int (a : Nat), .int (t : Nat)] Q X m H := by
  refine bodyx_value_of ok hc hX fun c' hw hc' => ?_
  conv => arg 3; whnf
  specialize "w"
  exact x_serial_size ⟨rfl, rfl, by decide⟩ ht hc' fun _ _ _ z => leave_fly hc' z
end
section
open PySem PySem.W PyProof.Rows
set_option Elab.async false
set_option linter.unusedVariables false
set_option maxRecDepth 100000
set_option maxHeartbeats 4000000

def badB (k : Nat) : List Nat := [3, 0, k, 0, 0, 0, 0, 0, 0, 0, 0]
theorem bad_get {k i : Nat} (hk : k = 7 ∨ k = 10 ∨ k = 11) (hi : i < 2) : ∃ v, getV 9 0 ((badB k).drop (1 + i)) (1 + i) = some (v, 1 + (i + 1)) ∧ ([0, k] : List Nat).take (i + 1) = ([0, k] : List Nat).take i ++ [v] := by
  have : i = 0 ∨ i = 1 := by lia
  rcases this with rfl | rfl
  · exact ⟨0, rfl, rfl⟩
  · rcases hk with rfl | rfl | rfl <;> exact ⟨_, rfl, rfl⟩
theorem c_head_bad {F : FC} {c : Cx} {X : XP} {m : Loc} {H : AHeap} {k : Nat} {Q : AV → AHeap → Prop} (ok : FOk F 2) (hk : k = 7 ∨ k = 10 ∨ k = 11)
    (h : ∀ l d, H l = none → H d = none → l ≠ d → Q (.ref d) ((H.set l (.list (nints [0, k]))).set d (.tuple [.ref l, .int (3 : Nat)]))) : WCall F c (.ref 185) [.bytes (badB k)] Q X m H := by
  have hz : (badB k).length ≤ bigLine := Nat.le_of_ble_eq_true rfl
  have hb : ∀ n ∈ badB k, n < 256 := by unfold badB; simp; lia
  have hlen : (badB k).length = 11 := rfl
  refine body_head_of ok fun c' hw => ?_
  conv => arg 3; whnf
  specialize "w"
  refine WS_AssignT2 ?_
  specialize "w"
  refine c_get_varint (a := 0) (v := 3) (e := 1) ⟨rfl, rfl, by decide⟩ hz hb rfl fun d hd => ?_
  refine ⟨_, _, .tuple (AHeap.set_same _ _ _), ?_⟩
  specialize "S"
  specialize "S"
  specialize "S"
  refine WF.weak ((AHeap.Sub.refl _).new hd) ?_
  specialize "w"
  refine len_bytesA hz ?_
  specialize "w"
  refine br (fun q => ?_) fun q => ?_
  · lia
  specialize "w"
  refine br (fun q => ?_) fun q => ?_
  · lia
  specialize "w"
  intro l hl
  specialize "w"
  refine WS_While (fun n m H' => ∃ (i : Nat) (kv : Option AV), i + n = 2 ∧ m = [(Str.ofString "octets", some (.bytes (badB k))), (Str.ofString "end", some (.int (3 : Nat))), (Str.ofString "at", some (.int (1 + i : Nat))), (Str.ofString "types", some (.ref l)), (Str.ofString "kind", kv)] ∧
    H' = H.set l (.list (nints (([0, k] : List Nat).take i)))) 2 ⟨0, none, rfl, rfl, rfl⟩ ?_
  rintro n m H' ⟨i, kv, hin, rfl, rfl⟩
  specialize "w"
  refine br (fun q => ?_) fun q => ?_
  · refine WF.shrink ?_
    obtain ⟨v, hv, htk⟩ := bad_get (i := i) hk (by lia)
    specialize "w"
    refine WS_AssignT2 ?_
    specialize "w"
    refine c_get_varint ⟨rfl, rfl, by decide⟩ hz hb hv fun d' hd' => ?_
    refine ⟨_, _, .tuple (AHeap.set_same _ _ _), ?_⟩
    specialize "w"
    have hld : l ≠ d' := AHeap.ne_of hd' (AHeap.set_same _ _ _)
    refine call_appendN v ((AHeap.set_ne _ _ hld).trans (AHeap.set_same _ _ _)) (by rw [List.length_take]; show _ ≤ 16777216; have : ([0, k] : List Nat).length = 2 := rfl; lia) ?_
    specialize "w"
    refine ⟨H.set l (.list (nints (([0, k] : List Nat).take (i + 1)))), ?_, ?_⟩
    · rw [htk]
      exact (((AHeap.Sub.refl H).new hl).new (AHeap.set_none hd').2).set l _
    exact ⟨n - 1, by lia, i + 1, _, by lia, rfl, rfl⟩
  · have hi : i = 2 := by lia
    subst hi
    specialize "w"
    refine brne (fun q2 => ?_) fun q2 => ?_
    · lia
    specialize "w"
    intro d2 hd2
    specialize "w"
    exact ⟨_, .refl _, h l d2 hl (AHeap.set_none hd2).2 (AHeap.ne_of hd2 (AHeap.set_same _ _ _))⟩
theorem x_decode_record {F : FC} {c : Cx} {X : XP} {m : Loc} {H : AHeap} {k : Nat} {Q : AV → AHeap → Prop} {G B : Heap} {outer : List Env} (ok : FOk F 4) (hk : k = 7 ∨ k = 10 ∨ k = 11) (hc : Here G B c outer)
    (hX : ∀ h₀ v s', FlyX G B c outer h₀ v s' → X h₀ v s') : WCall F c (.ref 192) [.bytes (badB k)] Q X m H := by
  have hz : (badB k).length ≤ bigLine := Nat.le_of_ble_eq_true rfl
  have hb : ∀ n ∈ badB k, n < 256 := by unfold badB; simp; lia
  have hlen : (badB k).length = 11 := rfl
  refine bodyx_decode_record ok hc hX fun c' hw hc' => ?_
  conv => arg 3; whnf
  specialize "w"
  refine WS_AssignT2 ?_
  specialize "w"
  refine c_head_bad ⟨rfl, rfl, by decide⟩ hk fun t d ht hd htd => ?_
  refine ⟨_, _, .tuple (AHeap.set_same _ _ _), ?_⟩
  specialize "S"
  specialize "S"
  specialize "S"
  refine WF.weak (H' := H.set t (.list (nints [0, k]))) ((AHeap.Sub.refl _).new ((AHeap.set_ne _ _ (Ne.symm htd)).trans hd)) ?_
  specialize "w"
  intro l hl
  specialize "w"
  have hlt : t ≠ l := AHeap.ne_of hl (AHeap.set_same _ _ _)
  refine WS_ForX hc' (asg := asgN (Str.ofString "kind")) asgN_ok ?_ (fun _ => rfl)
  specialize "w"
  refine ⟨_, _, _, .list (xs := nints [0, k]) ((AHeap.set_ne _ _ hlt).trans (AHeap.set_same _ _ _)), .refl _, ?_⟩
  refine ⟨(AHeap.set_ne _ _ hlt).trans (AHeap.set_same _ _ _), ?_⟩
  specialize "w"
  refine c_value_of (v := .none) (rest := [0, 0, 0, 0, 0, 0, 0, 0]) ⟨rfl, rfl, by decide⟩ trivial hz hb ?_ ?_ ?_
  · rw [hlen]; decide
  · rfl
  specialize "w"
  refine call_append (xs := []) (AHeap.set_same _ _ _) (by show 0 ≤ 16777216; decide) ?_
  rw [AHeap.set_set]
  specialize "w"
  refine c_serial_size (t := 0) ⟨rfl, rfl, by decide⟩ (by decide) ?_
  refine iop_addN 0 ?_
  specialize "w"
  refine ⟨(AHeap.set_ne _ _ hlt).trans (AHeap.set_same _ _ _), ?_⟩
  specialize "w"
  refine x_value_of (t := k) ⟨rfl, rfl, by decide⟩ hk hc' fun _ _ _ z => z
end
section
open PySem PySem.W PyProof.Rows
set_option Elab.async false
set_option linter.unusedVariables false
set_option maxRecDepth 100000
set_option maxHeartbeats 4000000

theorem refuses {c c' : Cx} (hfr : c.A.frames = some []) (hA : c'.A = c.A.deeper c'.env) (hf : c'.env.frame = some c'.env.locals) : Refuses c' := by
  intro m H k Q hk hq
  refine WCall_catch (F' := FG (scopeAt 46) 5) (p := Str.ofString "octets") (cn := Str.ofString "CorruptError") (P := 31) (fI := 28) (fn_law_refused _) rfl rfl (by decide) rfl (by decide +kernel) (by decide +kernel) (ex_corrupt _) (g_CorruptError _) (by decide +kernel)
    (by rw [hA]; exact Around.frames_deeper hfr) hf (fun _ => rfl) (fun G B c2 hw here => ?_) hq
  specialize "w"
  exact x_decode_record (k := k) ⟨rfl, rfl, by decide⟩ hk here fun _ _ _ z => z
end
section
open PySem PySem.W PyProof.Rows
set_option Elab.async false
set_option linter.unusedVariables false
set_option maxRecDepth 100000
set_option maxHeartbeats 4000000
theorem frag_mem : ∀ {K : Frag} {a : Addr} {o : Obj}, K.lookup a = some o → (a, o) ∈ K
  | [], _, _, e => by cases e
  | (b, x) :: r, a, o, e => by
    rw [List.lookup_cons] at e
    cases q : a == b with
    | true => rw [q] at e; cases e; rw [beq_iff_eq.mp q]; exact .head _
    | false => rw [q] at e; exact .tail _ (frag_mem e)
theorem no_lists (P : Params) : ∀ a o, (KF P).lookup a = some o → o.cls ≠ .type "list" := by
  have h : (KF P).all (fun x => x.2.cls != .type "list") = true := by kernel_rfl
  intro a o e q
  have hm : (a, o) ∈ KF P := frag_mem e
  have := List.all_eq_true.mp h _ hm
  rw [q] at this
  simp at this
theorem enters {w : World} {s : Shared} {b : Addr} {zs : List Value} {ns : List Int} (KI : (KF w.params).In s.heap) (hT : ∃ p l mg mb, TopRead p l mg mb s.heap) (hL : s.heap.IsList b zs.toArray) (hI : IntsAre zs ns) (hl : ns.length ≤ 1000) (hgens : s.gens = #[]) :
    wpC (model PySem.Challenge.pw_nt0103_01 w) callerA (call (.ref 293) [.ref b]) (fun v s' => v = .bool true ∧ (∀ d o, s.heap.get? d = some o → s'.heap.get? d = some o) ∧ s'.gens = #[] ∧ s'.os = s.os) (fun _ _ => False) s := by
  obtain ⟨ob, hob, hcls, zn, hdat⟩ := hL
  refine entryC (F' := FG (scopeAt 47) 6) (a := 293) (ob := ob) (ns := ns) (p := Str.ofString "script") (cl := clL) (ci := fun _ => none) (ls := [Str.ofString "k", Str.ofString "values", Str.ofString "kind"]) (m0 := [(Str.ofString "script", some (.ref b)), (Str.ofString "k", none), (Str.ofString "values", none), (Str.ofString "kind", none)])
    (fn_law _) KI hT hob hcls hdat hI (fun a o e q => no_lists _ a o e (q ▸ hcls)) hgens rfl (by decide) (by decide) (fun n => by kernel_rfl) (fun n => by show ([Str.ofString "source"] : List Str).Nodup; decide +kernel) (by show ([Str.ofString "script", Str.ofString "k", Str.ofString "values", Str.ofString "kind"] : List Str) = _; decide +kernel) (.inl (by decide +kernel)) (by show ∀ x ∈ ([Str.ofString "script", Str.ofString "k", Str.ofString "values", Str.ofString "kind"] : List Str), _; decide +kernel) (by show ([Str.ofString "script", Str.ofString "k", Str.ofString "values", Str.ofString "kind"] : List Str).Nodup; decide +kernel) ?_ (fun z w h => nomatch h) ?_ ?_
  · intro z w hz
    rcases List.mem_cons.mp hz with q | q
    · cases q; exact ⟨rfl, rfl, by decide +kernel⟩
    · rcases List.mem_cons.mp q with q | q
      · cases q
      · rcases List.mem_cons.mp q with q | q
        · cases q
        · rcases List.mem_cons.mp q with q | q
          · cases q
          · cases q
  · intro n x b e _ q
    subst q
    have : List.lookup (Str.ofString "script") (clL n) = none := by kernel_rfl
    rw [this] at e; cases e
  · intro c' n H' hw hA hfr hcells sub hc _
    exact law_walk (sub.at (AHeap.set_same _ _ _)) hl (refuses (c := ⟨w, callerA, c'.env, s.os, fun _ => True⟩) rfl hA hfr) hcells (hc (Str.ofString "source") n (by unfold clL; rw [List.lookup_cons_self])) fun H'' e => ⟨rfl, e⟩
theorem last : PySem.Challenge.rw_nt0103_01.Holds := head (by
  intro w s₀ s₁ mg mb fa hT hN KX e0 hg args vals as hpre hlay hrd hwl hlo
  have e1 := mg_of KX hN (g_law _)
  rw [e0] at e1
  obtain rfl : fa = 293 := by injection e1 with e1; injection e1
  wrow_args hpre hlay hrd hwl hlo
  have hL := ‹s₁.heap.IsList _ _›
  have hI := ‹IntsAre _ _›
  have hlen := ‹¬ ((63 : Nat) : Int) < _›
  refine wpC_mono (enters KX hT hL hI (by omega) hg) (fun v s' ⟨hv, hk, hg', ho'⟩ => ?_) fun _ _ z => z.elim
  subst hv
  refine ⟨.inl ⟨.bool true, .bool true, [], rfl, fun _ => rfl, .bool true, ?_, fun _ => ⟨List.nodup_nil, fun a ha => nomatch ha⟩⟩, .of_keep hk, ho', .of_eq hg'⟩
  kernel_rfl)
end
end Mine
end
theorem PySem.Challenge.cw_nt0103_01_holds : PySem.Challenge.rw_nt0103_01.Holds :=
  Mine.last
